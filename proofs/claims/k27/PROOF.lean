import PyProof.Rows.All
import Wide.All
import OpenK.AllK
import Wide.FinOn
import HandS.Base
import HandS.Call
import HandS.List
import HandS.Words
import HandS.Wide
import HandS.IsInst
import HandS.Comp
import PyProof.Rows.RuleB_pow
import HandS.Style
import KE.KTupSum
import HandS.WordsDict
import HandS.SortInts
import HandS.More
import HandS.Conv
import HandS.Text
import HandS.RaiseMore
import HandS.Iter
import HandS.Flow
import HandS.WordsExc
import HandS.Ends
import HandS.Dict
import PyProof.ReprRoads
import HandS.Deep
import KE.GoesEnum
import PyProof.EnumMake
import HandS.Property
import HandS.ClsMeth
import HandS.OwnEq
import HandS.CallRecv
import HandS.CallLocal
import PyProof.InstNe
import HandS.Strs
import HandS.SetFor
import PyProof.Rows.SetFrom
import PyProof.InstSpecial
import KE.KFmtOwn
import HandS.FStr
import HandS.Rev
import HandS.Zip
import HandS.Defaults
import HandS.ExcOwn
import HandS.ExcInit
import HandS.ExcField
import HandS.ExcIs
import HandS.TryOnly
import KE.KExcIs
import HandS.GenList
import PyProof.ForAny
import HandS.NoneIn
import HandS.SortRule
import HandS.TupLe
import KE.DataMinMax
import HandS.ListItems
import HandS.TupMul
import PyProof.Rows.TupDisplay
import PySem.Challenge.RW_ringcalls_k27_passes_listed_and_counted
set_option Elab.async false
set_option linter.all false
set_option maxRecDepth 100000
/-! the data layer, part 1: data, what stands for them, slots, what holds between them and the abstract heap -/
namespace DL
open PySem L2
abbrev Fg := PySem.W.Frag
/-- data: values as trees -/
inductive D where
  | non
  | bl (b : Bool)
  | int (i : Int)
  | str (s : Str)
  | lst (ds : List D)
  | scr (ds : List D)
  | tup (ds : List D)
  | dic (kvs : List (Key × D))
  | dit (kvs : List (List Key × D))
  | dkl (kvs : List (Key × D))
  | dtl (kvs : List (List Key × D))
  | pnK (o : Obj) (kvs : List (Key × V))
  | pnT (o : Obj) (kvs : List (List Key × V))
  | obj (C : Addr) (ns : List Str) (ds : List D)
  | cls (C : Addr)
  | xcl (c : Value) (n : Str)
/-- the class that a name of the module stands for -/
def XNm (K : Fg) (n : Str) (c : Addr) : Prop := PySem.W.nsIn K mainGlobals n = some (some (.ref c))
mutual
inductive Rep (K : Fg) (H : Hp) : V → D → Prop
  | non : Rep K H .non .non
  | bl (b : Bool) : Rep K H (.bl b) (.bl b)
  | int (i : Int) : Rep K H (.int i) (.int i)
  | str (x : Str) : Rep K H (.str x) (.str x)
  | cls (C : Addr) : Rep K H (.ref C) (.cls C)
  | xcl {c : Addr} {n : Str} : XNm K n c → Rep K H (.int 0) (.xcl (.ref c) n)
  | lst {a : Addr} {vs : List V} {ds : List D} : H a = some (.lst vs) → Reps K H vs ds → Rep K H (.ref a) (.lst ds)
  | scr {a : Addr} {vs : List V} {ds : List D} : SqL K H a vs → Reps K H vs ds → Rep K H (.ref a) (.scr ds)
  | tup {a : Addr} {vs : List V} {ds : List D} : H a = some (.tup vs) → Reps K H vs ds → Rep K H (.ref a) (.tup ds)
  | dic {a : Addr} {kvs : List (Key × V)} {dks : List (Key × D)} : H a = some (.dK kvs) → RepK K H kvs dks → Rep K H (.ref a) (.dic dks)
  | dit {a : Addr} {kvs : List (List Key × V)} {dks : List (List Key × D)} : H a = some (.dT kvs) → RepT K H kvs dks → Rep K H (.ref a) (.dit dks)
  | dkl {a : Addr} {o : Obj} {kvs : List (Key × V)} {dks : List (Key × D)} : H a = some (.frz o (.dK kvs)) → RepK K H kvs dks → Rep K H (.ref a) (.dkl dks)
  | dtl {a : Addr} {o : Obj} {kvs : List (List Key × V)} {dks : List (List Key × D)} : H a = some (.frz o (.dT kvs)) → RepT K H kvs dks → Rep K H (.ref a) (.dtl dks)
  | pnK {a : Addr} {o : Obj} {kvs : List (Key × V)} : H a = some (.frz o (.dK kvs)) → Rep K H (.ref a) (.pnK o kvs)
  | pnT {a : Addr} {o : Obj} {kvs : List (List Key × V)} : H a = some (.frz o (.dT kvs)) → Rep K H (.ref a) (.pnT o kvs)
  | obj {a C dx : Addr} {fs : List (Str × V)} {ns : List Str} {ds : List D} : H a = some (.ins C dx fs) → fs.map (·.1) = ns → Reps K H (fs.map (·.2)) ds → Rep K H (.ref a) (.obj C ns ds)
inductive Reps (K : Fg) (H : Hp) : List V → List D → Prop
  | nil : Reps K H [] []
  | cons {v : V} {vs : List V} {d : D} {ds : List D} : Rep K H v d → Reps K H vs ds → Reps K H (v :: vs) (d :: ds)
inductive RepK (K : Fg) (H : Hp) : List (Key × V) → List (Key × D) → Prop
  | nil : RepK K H [] []
  | cons {k : Key} {v : V} {d : D} {vs : List (Key × V)} {ds : List (Key × D)} : Rep K H v d → RepK K H vs ds → RepK K H ((k, v) :: vs) ((k, d) :: ds)
inductive RepT (K : Fg) (H : Hp) : List (List Key × V) → List (List Key × D) → Prop
  | nil : RepT K H [] []
  | cons {k : List Key} {v : V} {d : D} {vs : List (List Key × V)} {ds : List (List Key × D)} : Rep K H v d → RepT K H vs ds → RepT K H ((k, v) :: vs) ((k, d) :: ds)
end
section
variable {K : Fg} {H H' : Hp}
mutual
theorem Rep.mono (e : Same H H') : ∀ {v : V} {d : D}, Rep K H v d → Rep K H' v d
  | _, _, .non => .non
  | _, _, .bl b => .bl b
  | _, _, .int i => .int i
  | _, _, .str x => .str x
  | _, _, .cls C => .cls C
  | _, _, .xcl h => .xcl h
  | _, _, .lst h r => .lst (e _ _ h) (Reps.mono e r)
  | _, _, .scr h r => .scr (L2.Same.seq e h) (Reps.mono e r)
  | _, _, .tup h r => .tup (e _ _ h) (Reps.mono e r)
  | _, _, .dic h r => .dic (e _ _ h) (RepK.mono e r)
  | _, _, .dit h r => .dit (e _ _ h) (RepT.mono e r)
  | _, _, .dkl h r => .dkl (e _ _ h) (RepK.mono e r)
  | _, _, .dtl h r => .dtl (e _ _ h) (RepT.mono e r)
  | _, _, .pnK h => .pnK (e _ _ h)
  | _, _, .pnT h => .pnT (e _ _ h)
  | _, _, .obj h n r => .obj (e _ _ h) n (Reps.mono e r)
theorem Reps.mono (e : Same H H') : ∀ {vs : List V} {ds : List D}, Reps K H vs ds → Reps K H' vs ds
  | _, _, .nil => .nil
  | _, _, .cons h r => .cons (Rep.mono e h) (Reps.mono e r)
theorem RepK.mono (e : Same H H') : ∀ {vs : List (Key × V)} {ds : List (Key × D)}, RepK K H vs ds → RepK K H' vs ds
  | _, _, .nil => .nil
  | _, _, .cons h r => .cons (Rep.mono e h) (RepK.mono e r)
theorem RepT.mono (e : Same H H') : ∀ {vs : List (List Key × V)} {ds : List (List Key × D)}, RepT K H vs ds → RepT K H' vs ds
  | _, _, .nil => .nil
  | _, _, .cons h r => .cons (Rep.mono e h) (RepT.mono e r)
end
theorem Reps.length : ∀ {vs : List V} {ds : List D}, Reps K H vs ds → vs.length = ds.length
  | _, _, .nil => rfl
  | _, _, .cons _ r => by rw [List.length_cons, List.length_cons, Reps.length r]
theorem Reps.get : ∀ {vs : List V} {ds : List D} {i : Nat} {d : D}, Reps K H vs ds → ds[i]? = some d → ∃ v, vs[i]? = some v ∧ Rep K H v d
  | _, _, _, _, .nil, e => by simp at e
  | _, _, 0, _, .cons h _, e => by simp at e; subst e; exact ⟨_, rfl, h⟩
  | _, _, i + 1, d, .cons _ r, e => by
    obtain ⟨v, h1, h2⟩ := Reps.get (i := i) (d := d) r (by simpa using e)
    exact ⟨v, by simpa using h1, h2⟩
theorem Reps.getV : ∀ {vs : List V} {ds : List D} {i : Nat} {v : V}, Reps K H vs ds → vs[i]? = some v → ∃ d, ds[i]? = some d ∧ Rep K H v d
  | _, _, _, _, .nil, e => by simp at e
  | _, _, 0, _, .cons h _, e => by simp at e; subst e; exact ⟨_, rfl, h⟩
  | _, _, i + 1, d, .cons _ r, e => by
    obtain ⟨v, h1, h2⟩ := Reps.getV (i := i) (v := d) r (by simpa using e)
    exact ⟨v, by simpa using h1, h2⟩
theorem Reps.append : ∀ {vs ws : List V} {ds es : List D}, Reps K H vs ds → Reps K H ws es → Reps K H (vs ++ ws) (ds ++ es)
  | _, _, _, _, .nil, s => s
  | _, _, _, _, .cons h r, s => .cons h (Reps.append r s)
theorem Reps.take : ∀ {vs : List V} {ds : List D} (n : Nat), Reps K H vs ds → Reps K H (vs.take n) (ds.take n)
  | _, _, 0, _ => .nil
  | _, _, _ + 1, .nil => .nil
  | _, _, n + 1, .cons h r => .cons h (Reps.take n r)
theorem Reps.drop : ∀ {vs : List V} {ds : List D} (n : Nat), Reps K H vs ds → Reps K H (vs.drop n) (ds.drop n)
  | _, _, 0, r => r
  | _, _, _ + 1, .nil => .nil
  | _, _, n + 1, .cons _ r => Reps.drop n r
theorem Reps.set {v : V} {d : D} (h : Rep K H v d) : ∀ {vs : List V} {ds : List D} (n : Nat), Reps K H vs ds → Reps K H (vs.set n v) (ds.set n d)
  | _, _, _, .nil => .nil
  | _, _, 0, .cons _ r => .cons h r
  | _, _, n + 1, .cons g r => .cons g (Reps.set h n r)
theorem Reps.reverse : ∀ {vs : List V} {ds : List D}, Reps K H vs ds → Reps K H vs.reverse ds.reverse
  | _, _, .nil => .nil
  | _, _, .cons h r => by rw [List.reverse_cons, List.reverse_cons]; exact Reps.append (Reps.reverse r) (.cons h .nil)
theorem Reps.dropLast : ∀ {vs : List V} {ds : List D}, Reps K H vs ds → Reps K H vs.dropLast ds.dropLast
  | _, _, .nil => .nil
  | _, _, .cons _ .nil => .nil
  | _, _, .cons h (.cons g r) => .cons h (Reps.dropLast (.cons g r))
theorem Reps.eraseIdx : ∀ {vs : List V} {ds : List D} (i : Nat), Reps K H vs ds → Reps K H (vs.eraseIdx i) (ds.eraseIdx i)
  | _, _, _, .nil => .nil
  | _, _, 0, .cons _ r => r
  | _, _, i + 1, .cons h r => .cons h (Reps.eraseIdx i r)
theorem Reps.rep {vs : List V} {ds : List D} (h : Reps K H vs ds) : ∀ k : Nat, Reps K H (List.replicate k vs).flatten (List.replicate k ds).flatten
  | 0 => .nil
  | k + 1 => by
    rw [List.replicate_succ, List.replicate_succ, List.flatten_cons, List.flatten_cons]
    exact Reps.append h (Reps.rep h k)
theorem Reps.ints : ∀ {ns : List Int} {vs : List V}, Reps K H vs (ns.map D.int) → vs = ns.map V.int
  | [], _, .nil => rfl
  | n :: ns, _, .cons h r => by
    cases h
    rw [Reps.ints r]; rfl
theorem Reps.of_ints : ∀ (ns : List Int), Reps K H (ns.map V.int) (ns.map D.int)
  | [] => .nil
  | n :: ns => .cons (.int n) (Reps.of_ints ns)
end
/-- the abstract heap without the owned addresses -/
def hide (O : List Addr) (H : Hp) : Hp := fun a => if a ∈ O then none else H a
section
variable {O O' : List Addr} {H H' : Hp} {a p : Addr} {o : HO}
theorem hide_out (h : a ∉ O) : hide O H a = H a := if_neg h
theorem hide_some (h : hide O H a = some o) : a ∉ O ∧ H a = some o := by
  unfold hide at h
  split at h
  · cases h
  · rename_i n; exact ⟨n, h⟩
theorem hide_same : Same (hide O H) H := fun _ _ h => (hide_some h).2
theorem hide_sub (h : ∀ a, a ∈ O → a ∈ O') : Same (hide O' H) (hide O H) := fun b u e => by
  obtain ⟨n, e⟩ := hide_some e
  rw [hide_out fun z => n (h b z)]; exact e
theorem hide_cons_sub : Same (hide (p :: O) H) (hide O H) := hide_sub fun _ h => List.mem_cons_of_mem _ h
theorem hide_new (h : H p = none) : Same (hide O H) (hide O (upd H p o)) := fun b u e => by
  obtain ⟨n, e⟩ := hide_some e
  rw [hide_out n, upd_ne (ne_of_none e h)]; exact e
theorem hide_newO (h : H p = none) : Same (hide O H) (hide (p :: O) (upd H p o)) := fun b u e => by
  obtain ⟨n, e⟩ := hide_some e
  have hb : b ≠ p := ne_of_none e h
  rw [hide_out (fun z => (List.mem_cons.mp z).elim hb n), upd_ne hb]; exact e
theorem hide_mut (h : p ∈ O) : hide O (upd H p o) = hide O H := by
  funext b
  unfold hide
  split
  · rfl
  · rename_i n
    exact upd_ne fun z => n (z ▸ h)
end
/-- the content of an owned object -/
inductive OwnOk (K : Fg) (H : Hp) : HO → D → Prop
  | lst {vs : List V} {ds : List D} : Reps K H vs ds → OwnOk K H (.lst vs) (.lst ds)
  | dic {kvs : List (Key × V)} {dks : List (Key × D)} : RepK K H kvs dks → OwnOk K H (.dK kvs) (.dic dks)
  | dit {kvs : List (List Key × V)} {dks : List (List Key × D)} : RepT K H kvs dks → OwnOk K H (.dT kvs) (.dit dks)
  | obj {C dx : Addr} {fs : List (Str × V)} {ns : List Str} {ds : List D} : fs.map (·.1) = ns → Reps K H (fs.map (·.2)) ds → OwnOk K H (.ins C dx fs) (.obj C ns ds)
theorem OwnOk.mono {K : Fg} {H H' : Hp} {o : HO} {d : D} (e : Same H H') : OwnOk K H o d → OwnOk K H' o d
  | .lst r => .lst (Reps.mono e r)
  | .dic r => .dic (RepK.mono e r)
  | .dit r => .dit (RepT.mono e r)
  | .obj n r => .obj n (Reps.mono e r)
theorem OwnOk.rep {K : Fg} {H : Hp} {o : HO} {d : D} {a : Addr} (h : H a = some o) : OwnOk K H o d → Rep K H (.ref a) d
  | .lst r => .lst h r
  | .dic r => .dic h r
  | .dit r => .dit h r
  | .obj n r => .obj h n r
/-- what a variable holds: nothing that is known; a datum that is shared (and so never changes); an own object; a parameter's object that may change; a parameter's value that is only looked at -/
inductive Sl where
  | no
  | sh (d : D)
  | ow (d : D)
  | io (d : D)
  | bo (d : D)
abbrev Env := List Sl
/-- what stays the same through a def's body -/
structure Ctx where
  K : Fg
  H0 : Hp
  O0 : List Addr
  M : List (Nat × Addr)
  B : List (Nat × V)
  T : List (V × D)
  U : List (Addr × HO)
def SlOk (C : Ctx) (O : List Addr) (σ : St) (H : Hp) (i : Nat) : Sl → Prop
  | .no => True
  | .sh d => ∃ v, σ[i]? = some (some v) ∧ Rep C.K (hide O H) v d
  | .ow d => ∃ l o, σ[i]? = some (some (.ref l)) ∧ l ∈ O ∧ C.H0 l = none ∧ H l = some o ∧ OwnOk C.K (hide O H) o d
  | .io d => ∃ l o, σ[i]? = some (some (.ref l)) ∧ (i, l) ∈ C.M ∧ l ∈ O ∧ H l = some o ∧ OwnOk C.K (hide O H) o d
  | .bo d => ∃ v, σ[i]? = some (some v) ∧ (i, v) ∈ C.B ∧ (Rep C.K (hide O H) v d ∨ ∃ l o, v = .ref l ∧ C.H0 l = some o ∧ (∀ p ∈ C.M, p.2 ≠ l) ∧ OwnOk C.K (hide O H) o d)
/-- slot i may be changed in place, and stands at a -/
def MutAt (Γ : Env) (σ : St) (i : Nat) (a : Addr) : Prop := (∃ d, Γ[i]? = some (.ow d) ∨ Γ[i]? = some (.io d)) ∧ σ[i]? = some (some (.ref a))
structure RelO (C : Ctx) (Γ : Env) (O : List Addr) (σ : St) (H : Hp) : Prop where
  sl : ∀ i s, Γ[i]? = some s → SlOk C O σ H i s
  ds : ∀ i j a, i ≠ j → MutAt Γ σ i a → MutAt Γ σ j a → False
  fr : ∀ a o, C.H0 a = some o → (∀ p ∈ C.M, p.2 ≠ a) → H a = some o
  mm : ∀ p ∈ C.M, σ[p.1]? = some (some (.ref p.2)) ∧ ∃ d, Γ[p.1]? = some (.io d)
  bb : ∀ p ∈ C.B, σ[p.1]? = some (some p.2) ∧ ∃ d, Γ[p.1]? = some (.bo d)
  oo : ∀ a ∈ C.O0, a ∈ O
  al : ∀ a ∈ O, H a ≠ none
  ol : ∀ a ∈ O, a ∈ C.O0 ∨ C.H0 a = none
  o0 : ∀ a ∈ C.O0, C.H0 a ≠ none
  tt : ∀ p ∈ C.T, Rep C.K (hide O H) p.1 p.2
  uu : ∀ q ∈ C.U, H q.1 = some q.2 ∧ q.1 ∈ O ∧ ∀ i, ¬ MutAt Γ σ i q.1
  len : Γ.length = σ.length
section
variable {C : Ctx} {Γ : Env} {O : List Addr} {σ : St} {H H' : Hp} {i : Nat} {d : D} {p : Addr} {o : HO} {v : V}
theorem SlOk.mono {s : Sl} (e : Same (hide O H) (hide O H')) (k : ∀ l o, l ∈ O → H l = some o → H' l = some o) : SlOk C O σ H i s → SlOk C O σ H' i s := by
  cases s with
  | no => exact fun _ => trivial
  | sh d => exact fun ⟨v, h1, h2⟩ => ⟨v, h1, h2.mono e⟩
  | ow d => exact fun ⟨l, o, h1, h2, h3, h4, h5⟩ => ⟨l, o, h1, h2, h3, k l o h2 h4, h5.mono e⟩
  | io d => exact fun ⟨l, o, h1, h2, h3, h4, h5⟩ => ⟨l, o, h1, h2, h3, k l o h3 h4, h5.mono e⟩
  | bo d =>
    intro ⟨v, h1, h2, h3⟩
    refine ⟨v, h1, h2, ?_⟩
    rcases h3 with h3 | ⟨l, o, h3, h4, h5, h6⟩
    · exact .inl (h3.mono e)
    · exact .inr ⟨l, o, h3, h4, h5, h6.mono e⟩
theorem RelO.notin (R : RelO C Γ O σ H) (h : H p = none) : p ∉ O := fun z => R.al p z h
theorem RelO.fresh0 (R : RelO C Γ O σ H) (h : H p = none) : C.H0 p = none := by
  cases e : C.H0 p with
  | none => rfl
  | some o =>
    by_cases hm : ∀ q ∈ C.M, q.2 ≠ p
    · rw [R.fr p o e hm] at h; cases h
    · exfalso
      apply hm
      intro q hq z
      obtain ⟨h1, d, h2⟩ := R.mm q hq
      obtain ⟨l, o, h3, _, h4, h5, _⟩ := R.sl q.1 _ h2
      rw [h1] at h3
      cases h3
      rw [z, h] at h5; cases h5
/-- a new object is laid -/
theorem RelO.alloc (R : RelO C Γ O σ H) (h : H p = none) : RelO C Γ O σ (upd H p o) := by
  have k : ∀ l u, l ∈ O → H l = some u → upd H p o l = some u := fun l u _ e => by rw [upd_ne (ne_of_none e h)]; exact e
  refine ⟨fun i s e => (R.sl i s e).mono (hide_new h) k, R.ds, fun a u e n => ?_, R.mm, R.bb, R.oo, fun a ha => ?_, R.ol, R.o0, fun p hp => (R.tt p hp).mono (hide_new h), fun q hq => ⟨by rw [upd_ne (ne_of_none (R.uu q hq).1 h)]; exact (R.uu q hq).1, (R.uu q hq).2⟩, R.len⟩
  · have := R.fr a u e n
    rw [upd_ne (ne_of_none this h)]; exact this
  · have := R.al a ha
    rw [upd_ne fun z => this (by rw [z]; exact h)]; exact this
/-- .. and owned -/
theorem RelO.allocO (R : RelO C Γ O σ H) (h : H p = none) : RelO C Γ (p :: O) σ (upd H p o) := by
  have e : Same (hide O H) (hide (p :: O) (upd H p o)) := hide_newO h
  have k : ∀ l u, H l = some u → upd H p o l = some u := fun l u e => by rw [upd_ne (ne_of_none e h)]; exact e
  refine ⟨fun i s es => ?_, R.ds, fun a u e n => k a u (R.fr a u e n), R.mm, R.bb, fun a ha => List.mem_cons_of_mem _ (R.oo a ha), fun a ha => ?_, fun a ha => ?_, R.o0, fun p hp => (R.tt p hp).mono e, fun q hq => ⟨k _ _ (R.uu q hq).1, List.mem_cons_of_mem _ (R.uu q hq).2.1, (R.uu q hq).2.2⟩, R.len⟩
  · have q := R.sl i s es
    cases s with
    | no => trivial
    | sh d => obtain ⟨v, h1, h2⟩ := q; exact ⟨v, h1, h2.mono e⟩
    | ow d => obtain ⟨l, u, h1, h2, h3, h4, h5⟩ := q; exact ⟨l, u, h1, List.mem_cons_of_mem _ h2, h3, k l u h4, h5.mono e⟩
    | io d => obtain ⟨l, u, h1, h2, h3, h4, h5⟩ := q; exact ⟨l, u, h1, h2, List.mem_cons_of_mem _ h3, k l u h4, h5.mono e⟩
    | bo d =>
      obtain ⟨v, h1, h2, h3⟩ := q
      refine ⟨v, h1, h2, ?_⟩
      rcases h3 with h3 | ⟨l, u, h3, h4, h5, h6⟩
      · exact .inl (h3.mono e)
      · exact .inr ⟨l, u, h3, h4, h5, h6.mono e⟩
  · rcases List.mem_cons.mp ha with z | z
    · rw [z, upd_same]; intro q; cases q
    · have := R.al a z
      rw [upd_ne fun z => this (by rw [z]; exact h)]; exact this
  · rcases List.mem_cons.mp ha with z | z
    · exact .inr (z ▸ R.fresh0 h)
    · exact R.ol a z
/-- a slot that may be stored to -/
def Free (Γ : Env) (i : Nat) : Prop := (∀ d, Γ[i]? ≠ some (.io d)) ∧ (∀ d, Γ[i]? ≠ some (.bo d))
theorem get_set_same {α : Type} {l : List α} {i : Nat} {x y : α} (h : (l.set i x)[i]? = some y) : x = y := by
  rw [List.getElem?_set_self' ] at h
  cases e : l[i]? with
  | none => rw [e] at h; cases h
  | some z => rw [e] at h; exact Option.some.inj h
theorem get_set_ne {α : Type} {l : List α} {i j : Nat} {x : α} (h : i ≠ j) : (l.set i x)[j]? = l[j]? := List.getElem?_set_ne h
theorem SlOk.other {j : Nat} {s : Sl} {x : Option V} (h : i ≠ j) : SlOk C O σ H j s → SlOk C O (σ.set i x) H j s := by
  have e : (σ.set i x)[j]? = σ[j]? := get_set_ne h
  cases s with
  | no => exact id
  | sh d => unfold SlOk; rw [e]; exact id
  | ow d => unfold SlOk; rw [e]; exact id
  | io d => unfold SlOk; rw [e]; exact id
  | bo d => unfold SlOk; rw [e]; exact id
theorem MutAt.other {j : Nat} {s : Sl} {x : Option V} {a : Addr} (h : i ≠ j) : MutAt (Γ.set i s) (σ.set i x) j a → MutAt Γ σ j a := by
  unfold MutAt
  rw [get_set_ne h, get_set_ne h]; exact id
theorem RelO.set (R : RelO C Γ O σ H) (f : Free Γ i) {s : Sl} {x : Option V} (hs : i < σ.length → SlOk C O (σ.set i x) H i s) (hd : ∀ j a, i ≠ j → MutAt Γ σ j a → MutAt (Γ.set i s) (σ.set i x) i a → False) (hu : ∀ q ∈ C.U, ¬ MutAt (Γ.set i s) (σ.set i x) i q.1) : RelO C (Γ.set i s) O (σ.set i x) H := by
  refine ⟨fun j t e => ?_, fun j k a n h1 h2 => ?_, R.fr, fun p hp => ?_, fun p hp => ?_, R.oo, R.al, R.ol, R.o0, R.tt, fun q hq => ⟨(R.uu q hq).1, (R.uu q hq).2.1, fun j hj => ?_⟩, by rw [List.length_set, List.length_set]; exact R.len⟩
  · by_cases h : i = j
    · subst h
      have hl : i < σ.length := by
        have := (List.getElem?_eq_some_iff.mp e).1
        rw [List.length_set] at this
        rw [← R.len]; exact this
      have := get_set_same e
      subst this
      exact hs hl
    · rw [get_set_ne h] at e
      exact (R.sl j t e).other h
  · by_cases h : i = j
    · subst h
      exact hd k a n (h2.other n) h1
    · by_cases h' : i = k
      · subst h'
        exact hd j a h (h1.other h) h2
      · exact R.ds j k a n (h1.other h) (h2.other h')
  · obtain ⟨h1, d, h2⟩ := R.mm p hp
    have ne : i ≠ p.1 := fun z => f.1 d (by rw [z]; exact h2)
    exact ⟨by rw [get_set_ne ne]; exact h1, d, by rw [get_set_ne ne]; exact h2⟩
  · obtain ⟨h1, d, h2⟩ := R.bb p hp
    have ne : i ≠ p.1 := fun z => f.2 d (by rw [z]; exact h2)
    exact ⟨by rw [get_set_ne ne]; exact h1, d, by rw [get_set_ne ne]; exact h2⟩
  · by_cases h : i = j
    · subst h
      exact hu q hq hj
    · exact (R.uu q hq).2.2 j (hj.other h)
theorem notMut_sh {x : Option V} {a : Addr} : ¬ MutAt (Γ.set i (.sh d)) (σ.set i x) i a := fun h => by
  obtain ⟨⟨d', h | h⟩, _⟩ := h
  · cases get_set_same h
  · cases get_set_same h
theorem notMut_no {x : Option V} {a : Addr} : ¬ MutAt (Γ.set i .no) (σ.set i x) i a := fun h => by
  obtain ⟨⟨d', h | h⟩, _⟩ := h
  · cases get_set_same h
  · cases get_set_same h
theorem RelO.setSh (R : RelO C Γ O σ H) (f : Free Γ i) (r : Rep C.K (hide O H) v d) : RelO C (Γ.set i (.sh d)) O (σ.set i (some v)) H :=
  R.set f (fun hl => ⟨v, List.getElem?_set_self hl, r⟩) (fun j a _ _ h => notMut_sh h) fun _ _ => notMut_sh
theorem RelO.setNo (R : RelO C Γ O σ H) (f : Free Γ i) (x : Option V) : RelO C (Γ.set i .no) O (σ.set i x) H :=
  R.set f (fun _ => trivial) (fun j a _ _ h => notMut_no h) fun _ _ => notMut_no
theorem RelO.mutIn (R : RelO C Γ O σ H) (h : MutAt Γ σ i p) : p ∈ O := by
  obtain ⟨⟨d, h | h⟩, h2⟩ := h
  · obtain ⟨l, o, h3, h4, _⟩ := R.sl i _ h
    rw [h2] at h3; cases h3; exact h4
  · obtain ⟨l, o, h3, _, h4, _⟩ := R.sl i _ h
    rw [h2] at h3; cases h3; exact h4
theorem RelO.setOw (R : RelO C Γ (p :: O) σ H) (f : Free Γ i) (hp : ∀ j, ¬ MutAt Γ σ j p) (hu : ∀ q ∈ C.U, q.1 ≠ p) (h0 : C.H0 p = none) (ho : H p = some o) (r : OwnOk C.K (hide (p :: O) H) o d) : RelO C (Γ.set i (.ow d)) (p :: O) (σ.set i (some (.ref p))) H :=
  R.set f (fun hl => ⟨p, o, List.getElem?_set_self hl, List.mem_cons_self, h0, ho, r⟩) (fun j a n h1 h => by
    obtain ⟨_, h⟩ := h
    have := get_set_same h
    cases this
    exact hp j h1) fun q hq h => by
    obtain ⟨_, h⟩ := h
    have e := get_set_same h
    have e2 := Option.some.inj e
    exact hu q hq (V.ref.inj e2).symm
/-- an own object changes -/
theorem RelO.mut (R : RelO C Γ O σ H) {s s' : Sl} (hi : Γ[i]? = some s) (hs : (s = .ow d ∧ ∃ d', s' = .ow d') ∨ (s = .io d ∧ ∃ d', s' = .io d')) (hp : σ[i]? = some (some (.ref p)))
    (h' : ∀ d', s' = .ow d' ∨ s' = .io d' → OwnOk C.K (hide O H) o d') : RelO C (Γ.set i s') O σ (upd H p o) := by
  have hm : MutAt Γ σ i p := ⟨⟨d, by rcases hs with ⟨e, _⟩ | ⟨e, _⟩ <;> subst e <;> simp [hi]⟩, hp⟩
  have hO : p ∈ O := R.mutIn hm
  have eH : hide O (upd H p o) = hide O H := hide_mut hO
  have hil : i < Γ.length := (List.getElem?_eq_some_iff.mp hi).1
  have kind : ∀ j a, MutAt (Γ.set i s') σ j a → MutAt Γ σ j a := fun j a h => by
    by_cases e : i = j
    · subst e
      obtain ⟨_, h2⟩ := h
      exact ⟨⟨d, by rcases hs with ⟨e, _⟩ | ⟨e, _⟩ <;> subst e <;> simp [hi]⟩, h2⟩
    · obtain ⟨⟨d', h1⟩, h2⟩ := h
      rw [get_set_ne e] at h1
      exact ⟨⟨d', h1⟩, h2⟩
  have notM : ∀ a u, C.H0 a = some u → (∀ q ∈ C.M, q.2 ≠ a) → a ≠ p := fun a u e n z => by
    subst z
    rcases hs with ⟨e1, _⟩ | ⟨e1, _⟩
    · subst e1
      obtain ⟨l, o2, h3, _, h4, _⟩ := R.sl i _ hi
      rw [hp] at h3; cases h3
      rw [e] at h4; cases h4
    · subst e1
      obtain ⟨l, o2, h3, h4, _⟩ := R.sl i _ hi
      rw [hp] at h3; cases h3
      exact n _ h4 rfl
  refine ⟨fun j t e => ?_, fun j k a n h1 h2 => R.ds j k a n (kind _ _ h1) (kind _ _ h2), fun a u e n => by rw [upd_ne (notM a u e n)]; exact R.fr a u e n, fun q hq => ?_, fun q hq => ?_, R.oo, fun a ha => ?_, R.ol, R.o0, fun q hq => by rw [eH]; exact R.tt q hq, fun q hq => ⟨by rw [upd_ne fun z => (R.uu q hq).2.2 i (by rw [z]; exact hm)]; exact (R.uu q hq).1, (R.uu q hq).2.1, fun j hj => (R.uu q hq).2.2 j (kind _ _ hj)⟩, by rw [List.length_set]; exact R.len⟩
  · by_cases h : i = j
    · subst h
      have := get_set_same e
      subst this
      rcases hs with ⟨e1, d', e2⟩ | ⟨e1, d', e2⟩
      · subst e1 e2
        obtain ⟨l, o2, h3, h4, h5, h6, _⟩ := R.sl i _ hi
        rw [hp] at h3; cases h3
        exact ⟨p, o, hp, h4, h5, upd_same, by rw [eH]; exact h' d' (.inl rfl)⟩
      · subst e1 e2
        obtain ⟨l, o2, h3, h4, h5, h6, _⟩ := R.sl i _ hi
        rw [hp] at h3; cases h3
        exact ⟨p, o, hp, h4, h5, upd_same, by rw [eH]; exact h' d' (.inr rfl)⟩
    · rw [get_set_ne h] at e
      have q := R.sl j t e
      have dis : ∀ l, MutAt Γ σ j l → l ≠ p := fun l hl z => R.ds i j p h hm (z ▸ hl)
      cases t with
      | no => trivial
      | sh d2 =>
        obtain ⟨v, h1, h2⟩ := q
        exact ⟨v, h1, by rw [eH]; exact h2⟩
      | ow d2 =>
        obtain ⟨l, u, h1, h2, h3, h4, h5⟩ := q
        exact ⟨l, u, h1, h2, h3, by rw [upd_ne (dis l ⟨⟨d2, .inl e⟩, h1⟩)]; exact h4, by rw [eH]; exact h5⟩
      | io d2 =>
        obtain ⟨l, u, h1, h2, h3, h4, h5⟩ := q
        exact ⟨l, u, h1, h2, h3, by rw [upd_ne (dis l ⟨⟨d2, .inr e⟩, h1⟩)]; exact h4, by rw [eH]; exact h5⟩
      | bo d2 =>
        obtain ⟨v, h1, h2, h3⟩ := q
        refine ⟨v, h1, h2, ?_⟩
        rw [eH]
        exact h3
  · obtain ⟨h1, d2, h2⟩ := R.mm q hq
    refine ⟨h1, ?_⟩
    by_cases h : i = q.1
    · rw [← h] at h2
      rw [hi] at h2
      cases h2
      rcases hs with ⟨e1, _⟩ | ⟨e1, d', e2⟩
      · cases e1
      · exact ⟨d', by rw [← h, e2]; exact List.getElem?_set_self hil⟩
    · exact ⟨d2, by rw [get_set_ne h]; exact h2⟩
  · obtain ⟨h1, d2, h2⟩ := R.bb q hq
    refine ⟨h1, d2, ?_⟩
    have h : i ≠ q.1 := fun z => by
      rw [← z, hi] at h2
      rcases hs with ⟨e1, _⟩ | ⟨e1, _⟩ <;> subst e1 <;> cases h2
    rw [get_set_ne h]; exact h2
  · by_cases z : a = p
    · rw [z, upd_same]; intro q; cases q
    · rw [upd_ne z]; exact R.al a ha
/-- an own object is not changed any more: from now on it is shared -/
theorem RelO.freeze (R : RelO C Γ O σ H) (hi : Γ[i]? = some (.ow d)) : ∃ O', RelO C (Γ.set i (.sh d)) O' σ H ∧ Same (hide O H) (hide O' H) := by
  obtain ⟨l, o, h1, h2, h3, h4, h5⟩ := R.sl i _ hi
  have hm : MutAt Γ σ i l := ⟨⟨d, .inl hi⟩, h1⟩
  have hil : i < Γ.length := (List.getElem?_eq_some_iff.mp hi).1
  have sub : ∀ a, a ∈ O.filter (fun a => decide (a ≠ l)) → a ∈ O := fun a h => (List.mem_filter.mp h).1
  have e : Same (hide O H) (hide (O.filter fun a => decide (a ≠ l)) H) := hide_sub sub
  have lout : l ∉ O.filter (fun a => decide (a ≠ l)) := fun z => by
    have := (List.mem_filter.mp z).2
    simp at this
  have stays : ∀ a, a ∈ O → a ≠ l → a ∈ O.filter (fun a => decide (a ≠ l)) := fun a h n => List.mem_filter.mpr ⟨h, by simpa using n⟩
  have kind : ∀ j a, MutAt (Γ.set i (.sh d)) σ j a → MutAt Γ σ j a := fun j a h => by
    by_cases e : i = j
    · subst e
      obtain ⟨⟨d', h | h⟩, _⟩ := h
      · cases get_set_same h
      · cases get_set_same h
    · obtain ⟨⟨d', h1⟩, h2⟩ := h
      rw [get_set_ne e] at h1
      exact ⟨⟨d', h1⟩, h2⟩
  refine ⟨O.filter fun a => decide (a ≠ l), ⟨fun j t ej => ?_, fun j k a n g1 g2 => ?_, R.fr, fun q hq => ?_, fun q hq => ?_, fun a ha => stays a (R.oo a ha) ?_, fun a ha => R.al a (sub a ha), fun a ha => R.ol a (sub a ha), R.o0, fun q hq => (R.tt q hq).mono e, fun q hq => ⟨(R.uu q hq).1, stays _ (R.uu q hq).2.1 fun z => (R.uu q hq).2.2 i (by rw [z]; exact hm), fun j hj => (R.uu q hq).2.2 j (kind _ _ hj)⟩, by rw [List.length_set]; exact R.len⟩, e⟩
  · by_cases h : i = j
    · subst h
      have := get_set_same ej
      subst this
      refine ⟨_, h1, (h5.mono e).rep ?_⟩
      rw [hide_out lout]; exact h4
    · rw [get_set_ne h] at ej
      have q := R.sl j t ej
      have dis : ∀ a, MutAt Γ σ j a → a ≠ l := fun a ha z => R.ds i j l h hm (z ▸ ha)
      cases t with
      | no => trivial
      | sh d2 => obtain ⟨v, h1, h2⟩ := q; exact ⟨v, h1, h2.mono e⟩
      | ow d2 => obtain ⟨l2, u, h1, h2, h3, h4, h5⟩ := q; exact ⟨l2, u, h1, stays _ h2 (dis l2 ⟨⟨d2, .inl ej⟩, h1⟩), h3, h4, h5.mono e⟩
      | io d2 => obtain ⟨l2, u, h1, h2, h3, h4, h5⟩ := q; exact ⟨l2, u, h1, h2, stays _ h3 (dis l2 ⟨⟨d2, .inr ej⟩, h1⟩), h4, h5.mono e⟩
      | bo d2 =>
        obtain ⟨v, h1, h2, h3⟩ := q
        refine ⟨v, h1, h2, ?_⟩
        rcases h3 with h3 | ⟨l2, u, h3, h4, h5, h6⟩
        · exact .inl (h3.mono e)
        · exact .inr ⟨l2, u, h3, h4, h5, h6.mono e⟩
  · exact R.ds j k a n (kind _ _ g1) (kind _ _ g2)
  · obtain ⟨g1, d2, g2⟩ := R.mm q hq
    have h : i ≠ q.1 := fun z => by rw [← z, hi] at g2; cases g2
    exact ⟨g1, d2, by rw [get_set_ne h]; exact g2⟩
  · obtain ⟨g1, d2, g2⟩ := R.bb q hq
    have h : i ≠ q.1 := fun z => by rw [← z, hi] at g2; cases g2
    exact ⟨g1, d2, by rw [get_set_ne h]; exact g2⟩
  · intro z
    exact R.o0 a ha (z ▸ h3)
end
/-! ### results -/
/-- what an expression gives: a shared datum; a new object that nobody else holds; the object of slot i -/
inductive Res where
  | val (d : D)
  | fr (d : D)
  | pl (i : Nat)
  | np (a : D) (ds : List D)
/-- the content of a place -/
def cont : Option Sl → Option D
  | some (.ow d) => some d
  | some (.io d) => some d
  | some (.bo d) => some d
  | _ => none
def rd (Γ : Env) : Res → Option D
  | .val d => some d
  | .fr d => some d
  | .pl i => cont Γ[i]?
  | .np a ds => some (.tup [a, .lst ds])
/-- a shared datum -/
def dat : Res → Option D
  | .val d => some d
  | .fr d => some d
  | .pl _ => none
  | .np a ds => some (.tup [a, .lst ds])
def FrOk (C : Ctx) (Γ : Env) (O : List Addr) (σ : St) (H : Hp) (v : V) (d : D) : Prop :=
  ∃ p o, v = .ref p ∧ H p = some o ∧ p ∉ O ∧ C.H0 p = none ∧ OwnOk C.K (hide (p :: O) H) o d ∧ RelO C Γ (p :: O) σ H
/-- a pair, the second part of which is a new list -/
def NpOk (C : Ctx) (O : List Addr) (H : Hp) (v : V) (a : D) (ds : List D) : Prop :=
  ∃ p l v0 vs, v = .ref p ∧ H p = some (.tup [v0, .ref l]) ∧ p ∉ O ∧ l ∉ O ∧ H l = some (.lst vs) ∧ C.H0 l = none ∧ Rep C.K (hide O H) v0 a ∧ Reps C.K (hide O H) vs ds
def ROk (C : Ctx) (Γ : Env) (O : List Addr) (σ : St) (H : Hp) (v : V) : Res → Prop
  | .val d => RelO C Γ O σ H ∧ Rep C.K (hide O H) v d
  | .fr d => RelO C Γ O σ H ∧ FrOk C Γ O σ H v d
  | .pl i => RelO C Γ O σ H ∧ σ[i]? = some (some v)
  | .np a ds => RelO C Γ O σ H ∧ NpOk C O H v a ds
/-- a result that waits while other things are done -/
def Pend (K : Fg) (O : List Addr) (σ : St) (H : Hp) (v : V) : Res → Prop
  | .val d => Rep K (hide O H) v d
  | .fr d => Rep K (hide O H) v d
  | .pl i => σ[i]? = some (some v)
  | .np a ds => Rep K (hide O H) v (.tup [a, .lst ds])
/-- a value that is read now -/
def B2 (K : Fg) (O : List Addr) (H : Hp) (v : V) (d : D) : Prop := Rep K (hide O H) v d ∨ ∃ l o, v = .ref l ∧ H l = some o ∧ OwnOk K (hide O H) o d
section
variable {C : Ctx} {Γ : Env} {O : List Addr} {σ : St} {H H' : Hp} {i : Nat} {d : D} {p : Addr} {o : HO} {v : V} {r : Res}
theorem FrOk.rep (h : FrOk C Γ O σ H v d) : Rep C.K (hide O H) v d := by
  obtain ⟨p, o, rfl, h1, h2, h3, h4, _⟩ := h
  refine (h4.mono hide_cons_sub).rep ?_
  rw [hide_out h2]; exact h1
theorem NpOk.rep {a : D} {ds : List D} (h : NpOk C O H v a ds) : Rep C.K (hide O H) v (.tup [a, .lst ds]) := by
  obtain ⟨p, l, v0, vs, rfl, h1, h2, h3, h4, _, h5, h6⟩ := h
  exact .tup (by rw [hide_out h2]; exact h1) (.cons h5 (.cons (.lst (by rw [hide_out h3]; exact h4) h6) .nil))
theorem ROk.rel (h : ROk C Γ O σ H v r) : RelO C Γ O σ H := by
  cases r with
  | val d => exact h.1
  | fr d => exact h.1
  | pl i => exact h.1
  | np a ds => exact h.1
theorem ROk.pend (h : ROk C Γ O σ H v r) : Pend C.K O σ H v r := by
  cases r with
  | val d => exact h.2
  | fr d => exact h.2.rep
  | pl i => exact h.2
  | np a ds => exact h.2.rep
theorem Pend.mono {K : Fg} (e : Same (hide O H) (hide O H')) (h : Pend K O σ H v r) : Pend K O σ H' v r := by
  cases r with
  | val d => exact Rep.mono e h
  | fr d => exact Rep.mono e h
  | pl i => exact h
  | np a ds => exact Rep.mono e h
theorem Pend.dat {K : Fg} (h : Pend K O σ H v r) (e : dat r = some d) : Rep K (hide O H) v d := by
  cases r with
  | val d' => cases e; exact h
  | fr d' => cases e; exact h
  | pl i => cases e
  | np a ds => cases e; exact h
theorem Pend.b2 (R : RelO C Γ O σ H) (h : Pend C.K O σ H v r) (e : rd Γ r = some d) : B2 C.K O H v d := by
  cases r with
  | val d' => cases e; exact .inl h
  | fr d' => cases e; exact .inl h
  | np a ds => cases e; exact .inl h
  | pl i =>
    have e : cont Γ[i]? = some d := e
    cases q : Γ[i]? with
    | none => rw [q] at e; cases e
    | some s =>
      rw [q] at e
      have k := R.sl i s q
      cases s with
      | no => cases e
      | sh d' => cases e
      | ow d' =>
        cases e
        obtain ⟨l, o, h1, h2, h3, h4, h5⟩ := k
        have h : σ[i]? = some (some v) := h
        rw [h] at h1; cases h1
        exact .inr ⟨l, o, rfl, h4, h5⟩
      | io d' =>
        cases e
        obtain ⟨l, o, h1, h2, h3, h4, h5⟩ := k
        have h : σ[i]? = some (some v) := h
        rw [h] at h1; cases h1
        exact .inr ⟨l, o, rfl, h4, h5⟩
      | bo d' =>
        cases e
        obtain ⟨v', h1, h2, h3⟩ := k
        have h : σ[i]? = some (some v) := h
        rw [h] at h1; cases h1
        rcases h3 with h3 | ⟨l, o, h3, h4, h5, h6⟩
        · exact .inl h3
        · exact .inr ⟨l, o, h3, R.fr l o h4 h5, h6⟩
end
end DL
/-! the data layer, part 2: readings of expressions over data -/
namespace DL
open PySem L2
abbrev QE := Res → Env → Prop
abbrev DTE := Env → QE → Prop
abbrev DTT := Env → (Bool → Env → Prop) → Prop
abbrev DTA := Env → (List Res → Env → Prop) → Prop
inductive Pends (K : Fg) (O : List Addr) (σ : St) (H : Hp) : List V → List Res → Prop
  | nil : Pends K O σ H [] []
  | cons {v : V} {vs : List V} {r : Res} {rs : List Res} : Pend K O σ H v r → Pends K O σ H vs rs → Pends K O σ H (v :: vs) (r :: rs)
theorem Pends.mono {K : Fg} {O : List Addr} {σ : St} {H H' : Hp} (e : Same (hide O H) (hide O H')) : ∀ {vs : List V} {rs : List Res}, Pends K O σ H vs rs → Pends K O σ H' vs rs
  | _, _, .nil => .nil
  | _, _, .cons h t => .cons (h.mono e) (Pends.mono e t)
/-- what was shared stays; a new object is new -/
def SE (O : List Addr) (H H' : Hp) (v : V) (r : Res) : Prop := Same (hide O H) (hide O H') ∧ ∀ d p, r = .fr d → v = .ref p → Same (hide O H) (hide (p :: O) H')
theorem SE.val {O : List Addr} {H H' : Hp} {v : V} {d : D} (h : Same (hide O H) (hide O H')) : SE O H H' v (.val d) := ⟨h, fun _ _ e => nomatch e⟩
theorem SE.pl {O : List Addr} {H H' : Hp} {v : V} {i : Nat} (h : Same (hide O H) (hide O H')) : SE O H H' v (.pl i) := ⟨h, fun _ _ e => nomatch e⟩
theorem SE.fr {O : List Addr} {H H' : Hp} {p : Addr} {d : D} (h : Same (hide O H) (hide (p :: O) H')) : SE O H H' (.ref p) (.fr d) := ⟨L2.Same.trans h hide_cons_sub, fun _ _ _ e => by cases e; exact h⟩
theorem SE.after {O : List Addr} {H H1 H' : Hp} {v : V} {r : Res} (h : Same (hide O H) (hide O H1)) (e : SE O H1 H' v r) : SE O H H' v r := ⟨L2.Same.trans h e.1, fun d p e1 e2 => L2.Same.trans h (e.2 d p e1 e2)⟩
/-- e reads as t over slots and heap, and as m over data -/
def SimE (C : Ctx) (t : TE) (m : DTE) : Prop := ∀ (Γ : Env) (O : List Addr) (σ : St) (H : Hp) (Qd : QE) (Q : VK), RelO C Γ O σ H → m Γ Qd →
  (∀ r Γ' v H', ROk C Γ' O σ H' v r → SE O H H' v r → Qd r Γ' → Q v H') → t σ H Q
def SimT (C : Ctx) (t : TT) (m : DTT) : Prop := ∀ (Γ : Env) (O : List Addr) (σ : St) (H : Hp) (Qd : Bool → Env → Prop) (Q : Bool → Hp → Prop), RelO C Γ O σ H → m Γ Qd →
  (∀ b Γ' H', RelO C Γ' O σ H' → Same (hide O H) (hide O H') → Qd b Γ' → Q b H') → t σ H Q
def SimA (C : Ctx) (t : TA) (m : DTA) : Prop := ∀ (Γ : Env) (O : List Addr) (σ : St) (H : Hp) (Qd : List Res → Env → Prop) (Q : List V → Hp → Prop), RelO C Γ O σ H → m Γ Qd →
  (∀ rs Γ' vs H', RelO C Γ' O σ H' → Pends C.K O σ H' vs rs → Same (hide O H) (hide O H') → Qd rs Γ' → Q vs H') → t σ H Q
structure DE (X : Cx) (C : Ctx) (e : Expr) (t : TE) (m : DTE) : Prop where
  pe : PE X e t
  sim : SimE C t m
structure DT (X : Cx) (C : Ctx) (e : Expr) (t : TT) (m : DTT) : Prop where
  pt : PT X e t
  sim : SimT C t m
structure DW (X : Cx) (C : Ctx) (e : Expr) (t : TT) (m : DTT) : Prop where
  pw : PW X e t
  sim : SimT C t m
structure DA (X : Cx) (C : Ctx) (es : List Expr) (t : TA) (m : DTA) : Prop where
  pa : PA X es t
  sim : SimA C t m
/-- what an operation on values may hand back -/
structure Outs (K : Fg) (O : List Addr) (H : Hp) (Qd : Res → Prop) (Q : VK) : Prop where
  val : ∀ v d, Rep K (hide O H) v d → Qd (.val d) → Q v H
  new : ∀ p o d, H p = none → OwnOk K (hide O H) o d → Qd (.fr d) → Q (.ref p) (upd H p o)
  newT : ∀ p vs ds, H p = none → Reps K (hide O H) vs ds → Qd (.val (.tup ds)) → Q (.ref p) (upd H p (.tup vs))
section
variable {C : Ctx} {Γ Γ' : Env} {O : List Addr} {σ : St} {H H1 H' : Hp} {Qd : QE} {Q : VK}
theorem SameH.trans {a b c : Hp} (h : Same a b) (k : Same b c) : Same a c := L2.Same.trans h k
theorem outs_of (R : RelO C Γ' O σ H1) (e : Same (hide O H) (hide O H1)) (k : ∀ r Γ' v H', ROk C Γ' O σ H' v r → SE O H H' v r → Qd r Γ' → Q v H') : Outs C.K O H1 (fun r => Qd r Γ') Q where
  val := fun v d r q => k (.val d) Γ' v H1 ⟨R, r⟩ (.val e) q
  new := fun p o d hp ho q => k (.fr d) Γ' (.ref p) (upd H1 p o) ⟨R.alloc hp, p, o, rfl, upd_same, R.notin hp, R.fresh0 hp, ho.mono (hide_newO hp), R.allocO hp⟩ (.fr (L2.Same.trans e (hide_newO hp))) q
  newT := fun p vs ds hp hr q => k (.val (.tup ds)) Γ' (.ref p) (upd H1 p (.tup vs)) ⟨R.alloc hp, .tup (by rw [hide_out (R.notin hp)]; exact upd_same) (hr.mono (hide_new hp))⟩ (.val (L2.Same.trans e (hide_new hp))) q
end
section
variable {K : Fg} {O : List Addr} {H : Hp} {x : V}
theorem B2.int {i : Int} (h : B2 K O H x (.int i)) : x = .int i := by
  rcases h with h | ⟨l, o, _, _, h⟩
  · cases h; rfl
  · cases h
theorem B2.bl {i : Bool} (h : B2 K O H x (.bl i)) : x = .bl i := by
  rcases h with h | ⟨l, o, _, _, h⟩
  · cases h; rfl
  · cases h
theorem B2.str {i : Str} (h : B2 K O H x (.str i)) : x = .str i := by
  rcases h with h | ⟨l, o, _, _, h⟩
  · cases h; rfl
  · cases h
theorem B2.non (h : B2 K O H x .non) : x = .non := by
  rcases h with h | ⟨l, o, _, _, h⟩
  · cases h; rfl
  · cases h
theorem B2.lst {ds : List D} (h : B2 K O H x (.lst ds)) : ∃ a vs, x = .ref a ∧ H a = some (.lst vs) ∧ Reps K (hide O H) vs ds := by
  rcases h with h | ⟨l, o, rfl, h1, h⟩
  · cases h with | lst h r => exact ⟨_, _, rfl, hide_same _ _ h, r⟩
  · cases h with | lst r => exact ⟨l, _, rfl, h1, r⟩
theorem B2.scr {ds : List D} (h : B2 K O H x (.scr ds)) : ∃ a vs, x = .ref a ∧ SqL K H a vs ∧ Reps K (hide O H) vs ds := by
  rcases h with h | ⟨l, o, rfl, h1, h⟩
  · cases h with | scr h r => exact ⟨_, _, rfl, hide_same.seq h, r⟩
  · cases h
theorem B2.tup {ds : List D} (h : B2 K O H x (.tup ds)) : ∃ a vs, x = .ref a ∧ H a = some (.tup vs) ∧ Reps K (hide O H) vs ds := by
  rcases h with h | ⟨l, o, rfl, h1, h⟩
  · cases h with | tup h r => exact ⟨_, _, rfl, hide_same _ _ h, r⟩
  · cases h
theorem B2.dic {ds : List (Key × D)} (h : B2 K O H x (.dic ds)) : ∃ a vs, x = .ref a ∧ H a = some (.dK vs) ∧ RepK K (hide O H) vs ds := by
  rcases h with h | ⟨l, o, rfl, h1, h⟩
  · cases h with | dic h r => exact ⟨_, _, rfl, hide_same _ _ h, r⟩
  · cases h with | dic r => exact ⟨l, _, rfl, h1, r⟩
theorem B2.dit {ds : List (List Key × D)} (h : B2 K O H x (.dit ds)) : ∃ a vs, x = .ref a ∧ H a = some (.dT vs) ∧ RepT K (hide O H) vs ds := by
  rcases h with h | ⟨l, o, rfl, h1, h⟩
  · cases h with | dit h r => exact ⟨_, _, rfl, hide_same _ _ h, r⟩
  · cases h with | dit r => exact ⟨l, _, rfl, h1, r⟩
theorem B2.obj {c : Addr} {ns : List Str} {ds : List D} (h : B2 K O H x (.obj c ns ds)) : ∃ a dx fs, x = .ref a ∧ H a = some (.ins c dx fs) ∧ fs.map (·.1) = ns ∧ Reps K (hide O H) (fs.map (·.2)) ds := by
  rcases h with h | ⟨l, o, rfl, h1, h⟩
  · cases h with | obj h n r => exact ⟨_, _, _, rfl, hide_same _ _ h, n, r⟩
  · cases h with | obj n r => exact ⟨_, _, _, rfl, h1, n, r⟩
end
/-! ### the readings over data -/
def mVar (i : Nat) : DTE := fun Γ Q => match Γ[i]? with
  | some (.sh d) => Q (.val d) Γ
  | some (.ow _) => Q (.pl i) Γ
  | some (.io _) => Q (.pl i) Γ
  | some (.bo _) => Q (.pl i) Γ
  | _ => False
def mC (d : D) : DTE := fun Γ Q => Q (.val d) Γ
def mOp (f : D → D → (Res → Prop) → Prop) (ma mb : DTE) : DTE := fun Γ Q => ma Γ fun ra Γ1 => mb Γ1 fun rb Γ2 => ∃ a b, rd Γ2 ra = some a ∧ rd Γ2 rb = some b ∧ f a b fun r => Q r Γ2
def mUn (f : D → (Res → Prop) → Prop) (ma : DTE) : DTE := fun Γ Q => ma Γ fun ra Γ1 => ∃ a, rd Γ1 ra = some a ∧ f a fun r => Q r Γ1
def mTest (ma : DTE) : DTT := fun Γ Q => ma Γ fun r Γ1 => ∃ b, r = .val (.bl b) ∧ Q b Γ1
def mAndV (ma mb : DTE) : DTE := fun Γ Q => ma Γ fun r Γ1 => ∃ b, r = .val (.bl b) ∧ if b = true then mb Γ1 Q else Q (.val (.bl false)) Γ1
def mOrV (ma mb : DTE) : DTE := fun Γ Q => ma Γ fun r Γ1 => ∃ b, r = .val (.bl b) ∧ if b = true then Q (.val (.bl true)) Γ1 else mb Γ1 Q
def mNotV (ma : DTE) : DTE := fun Γ Q => ma Γ fun r Γ1 => ∃ b, r = .val (.bl b) ∧ Q (.val (.bl (!b))) Γ1
def mAnd (ma mb : DTT) : DTT := fun Γ Q => ma Γ fun b Γ1 => if b = true then mb Γ1 Q else Q false Γ1
def mOr (ma mb : DTT) : DTT := fun Γ Q => ma Γ fun b Γ1 => if b = true then Q true Γ1 else mb Γ1 Q
def mNot (ma : DTT) : DTT := fun Γ Q => ma Γ fun b Γ1 => Q (!b) Γ1
def mIf (mt : DTT) (ma mb : DTE) : DTE := fun Γ Q => mt Γ fun b Γ1 => if b = true then ma Γ1 Q else mb Γ1 Q
def mNil : DTA := fun Γ Q => Q [] Γ
def mCons (ma : DTE) (mr : DTA) : DTA := fun Γ Q => ma Γ fun r Γ1 => mr Γ1 fun rs Γ2 => Q (r :: rs) Γ2
def dats : List Res → Option (List D)
  | [] => some []
  | r :: rs => match dat r, dats rs with
    | some d, some ds => some (d :: ds)
    | _, _ => none
def rds (Γ : Env) : List Res → Option (List D)
  | [] => some []
  | r :: rs => match rd Γ r, rds Γ rs with
    | some d, some ds => some (d :: ds)
    | _, _ => none
def mTup (ma : DTA) : DTE := fun Γ Q => ma Γ fun rs Γ1 => ∃ ds, dats rs = some ds ∧ ds.length ≤ 100000 ∧ Q (.val (.tup ds)) Γ1
def mLst (ma : DTA) : DTE := fun Γ Q => ma Γ fun rs Γ1 => ∃ ds, dats rs = some ds ∧ ds.length ≤ 100000 ∧ Q (.fr (.lst ds)) Γ1
/-- a call of a built-in, by values -/
def mCB (f : List D → (Res → Prop) → Prop) (ma : DTA) : DTE := fun Γ Q => ma Γ fun rs Γ1 => ∃ ds, rds Γ1 rs = some ds ∧ f ds fun r => Q r Γ1
section
variable {X : Cx} {C : Ctx} {ta tb tc : TE} {ma mb mc : DTE} {a b c e : Expr} {pos : Pos} {tA tB' : TT} {mA mB : DTT}
theorem dats_ok {K : Fg} {O : List Addr} {σ : St} {H : Hp} : ∀ {vs : List V} {rs : List Res} {ds : List D}, Pends K O σ H vs rs → dats rs = some ds → Reps K (hide O H) vs ds
  | _, _, _, .nil, e => by cases e; exact .nil
  | _, _, ds, .cons (r := r) (rs := rs) h t, e => by
    unfold dats at e
    split at e
    · rename_i d ds' e1 e2
      cases e
      exact .cons (h.dat e1) (dats_ok t e2)
    · cases e
inductive B2s (K : Fg) (O : List Addr) (H : Hp) : List V → List D → Prop
  | nil : B2s K O H [] []
  | cons {v : V} {vs : List V} {d : D} {ds : List D} : B2 K O H v d → B2s K O H vs ds → B2s K O H (v :: vs) (d :: ds)
theorem rds_ok {Γ : Env} {O : List Addr} {σ : St} {H : Hp} (R : RelO C Γ O σ H) : ∀ {vs : List V} {rs : List Res} {ds : List D}, Pends C.K O σ H vs rs → rds Γ rs = some ds → B2s C.K O H vs ds
  | _, _, _, .nil, e => by cases e; exact .nil
  | _, _, ds, .cons (r := r) (rs := rs) h t, e => by
    unfold rds at e
    split at e
    · rename_i d ds' e1 e2
      cases e
      exact .cons (h.b2 R e1) (rds_ok R t e2)
    · cases e
theorem sim_var (i : Nat) : SimE C (tVar i) (mVar i) := fun Γ O σ H Qd Q R h k => by
  unfold mVar at h
  cases e : Γ[i]? with
  | none => rw [e] at h; exact h.elim
  | some s =>
    rw [e] at h
    have q := R.sl i s e
    cases s with
    | no => exact h.elim
    | sh d =>
      obtain ⟨v, h1, h2⟩ := q
      exact ⟨v, h1, k (.val d) _ _ _ ⟨R, h2⟩ (.val (L2.Same.refl _)) h⟩
    | ow d =>
      obtain ⟨l, o, h1, _⟩ := q
      exact ⟨_, h1, k (.pl i) _ _ _ ⟨R, h1⟩ (.pl (L2.Same.refl _)) h⟩
    | io d =>
      obtain ⟨l, o, h1, _⟩ := q
      exact ⟨_, h1, k (.pl i) _ _ _ ⟨R, h1⟩ (.pl (L2.Same.refl _)) h⟩
    | bo d =>
      obtain ⟨v, h1, _⟩ := q
      exact ⟨_, h1, k (.pl i) _ _ _ ⟨R, h1⟩ (.pl (L2.Same.refl _)) h⟩
theorem de_var (i : Nat) {x : Str} (h : PE X (.Name x pos) (tVar i)) : DE X C (.Name x pos) (tVar i) (mVar i) := ⟨h, sim_var i⟩
theorem sim_c {v : V} {d : D} (h : ∀ (K : Fg) (H : Hp), Rep K H v d) : SimE C (tC v) (mC d) := fun Γ O σ H Qd Q R q k => k (.val d) _ _ _ ⟨R, h _ _⟩ (.val (L2.Same.refl _)) q
theorem de_int {i : Int} {j} : DE X C (.Constant (.int i) j pos) (tC (.int i)) (mC (.int i)) := ⟨pe_int, sim_c fun _ _ => .int i⟩
theorem de_bl {i : Bool} {j} : DE X C (.Constant (.bool i) j pos) (tC (.bl i)) (mC (.bl i)) := ⟨pe_bl, sim_c fun _ _ => .bl i⟩
theorem de_str {x : Str} {j} : DE X C (.Constant (.str x) j pos) (tC (.str x)) (mC (.str x)) := ⟨pe_str, sim_c fun _ _ => .str x⟩
def SimR2 (K : Fg) (r : R2) (f : D → D → (Res → Prop) → Prop) : Prop := ∀ (O : List Addr) (H : Hp) (x y : V) (a b : D) (Qd : Res → Prop) (Q : VK), B2 K O H x a → B2 K O H y b → f a b Qd → Outs K O H Qd Q → r x y H Q
def SimRC (K : Fg) (r : List V → Hp → VK → Prop) (f : List D → (Res → Prop) → Prop) : Prop := ∀ (O : List Addr) (H : Hp) (vs : List V) (ds : List D) (Qd : Res → Prop) (Q : VK), B2s K O H vs ds → f ds Qd → Outs K O H Qd Q → r vs H Q
theorem sim_op {r : R2} {f : D → D → (Res → Prop) → Prop} (ha : SimE C ta ma) (hb : SimE C tb mb) (hr : SimR2 C.K r f) : SimE C (tOp r ta tb) (mOp f ma mb) := fun Γ O σ H Qd Q R h k => by
  refine ha Γ O σ H _ _ R h fun ra Γ1 x H1 R1 e1 q1 => ?_
  refine hb Γ1 O σ H1 _ _ R1.rel q1 fun rb Γ2 y H2 R2 e2 q2 => ?_
  obtain ⟨a, b, h1, h2, q⟩ := q2
  exact hr O H2 x y a b _ _ ((R1.pend.mono e2.1).b2 R2.rel h1) (R2.pend.b2 R2.rel h2) q (outs_of R2.rel (L2.Same.trans e1.1 e2.1) k)
theorem sim_test (ha : SimE C ta ma) : SimT C (tTest ta) (mTest ma) := fun Γ O σ H Qd Q R h k => by
  refine ha Γ O σ H _ _ R h fun ra Γ1 x H1 R1 e1 q1 => ?_
  obtain ⟨b, rfl, q⟩ := q1
  exact ⟨b, (show B2 C.K O H1 x (.bl b) from .inl R1.2).bl, k b Γ1 H1 R1.rel e1.1 q⟩
theorem sim_andV (ha : SimE C ta ma) (hb : SimE C tb mb) : SimE C (tAndV ta tb) (mAndV ma mb) := fun Γ O σ H Qd Q R h k => by
  refine ha Γ O σ H _ _ R h fun ra Γ1 x H1 R1 e1 q1 => ?_
  obtain ⟨c, rfl, q⟩ := q1
  refine ⟨c, (show B2 C.K O H1 x (.bl c) from .inl R1.2).bl, ?_⟩
  cases c with
  | true => exact hb Γ1 O σ H1 _ _ R1.rel q fun r Γ2 v H2 R2 e2 q2 => k r Γ2 v H2 R2 (.after e1.1 e2) q2
  | false => exact k (.val (.bl false)) Γ1 _ H1 ⟨R1.rel, .bl false⟩ (.val e1.1) q
theorem sim_and (ha : SimT C tA mA) (hb : SimT C tB' mB) : SimT C (tAnd tA tB') (mAnd mA mB) := fun Γ O σ H Qd Q R h k => by
  refine ha Γ O σ H _ _ R h fun c Γ1 H1 R1 e1 q => ?_
  cases c with
  | true => exact hb Γ1 O σ H1 _ _ R1 q fun r Γ2 H2 R2 e2 q2 => k r Γ2 H2 R2 (L2.Same.trans e1 e2) q2
  | false => exact k _ Γ1 H1 R1 e1 q
theorem sim_or (ha : SimT C tA mA) (hb : SimT C tB' mB) : SimT C (tOr tA tB') (mOr mA mB) := fun Γ O σ H Qd Q R h k => by
  refine ha Γ O σ H _ _ R h fun c Γ1 H1 R1 e1 q => ?_
  cases c with
  | false => exact hb Γ1 O σ H1 _ _ R1 q fun r Γ2 H2 R2 e2 q2 => k r Γ2 H2 R2 (L2.Same.trans e1 e2) q2
  | true => exact k _ Γ1 H1 R1 e1 q
theorem sim_not (ha : SimT C tA mA) : SimT C (tNot tA) (mNot mA) := fun Γ O σ H Qd Q R h k => ha Γ O σ H _ _ R h fun c Γ1 H1 R1 e1 q => k _ Γ1 H1 R1 e1 q
theorem sim_if (ht : SimT C tA mA) (ha : SimE C ta ma) (hb : SimE C tb mb) : SimE C (tIf tA ta tb) (mIf mA ma mb) := fun Γ O σ H Qd Q R h k => by
  refine ht Γ O σ H _ _ R h fun c Γ1 H1 R1 e1 q => ?_
  cases c with
  | true => exact ha Γ1 O σ H1 _ _ R1 q fun r Γ2 v H2 R2 e2 q2 => k r Γ2 v H2 R2 (.after e1 e2) q2
  | false => exact hb Γ1 O σ H1 _ _ R1 q fun r Γ2 v H2 R2 e2 q2 => k r Γ2 v H2 R2 (.after e1 e2) q2
theorem sim_nil : SimA C tNil mNil := fun Γ O σ H Qd Q R h k => k [] Γ [] H R .nil (L2.Same.refl _) h
theorem sim_cons {tr : TA} {mr : DTA} (ha : SimE C ta ma) (hr : SimA C tr mr) : SimA C (tCons ta tr) (mCons ma mr) := fun Γ O σ H Qd Q R h k => by
  refine ha Γ O σ H _ _ R h fun ra Γ1 x H1 R1 e1 q1 => ?_
  exact hr Γ1 O σ H1 _ _ R1.rel q1 fun rs Γ2 vs H2 R2 p2 e2 q2 => k _ Γ2 _ H2 R2 (.cons (R1.pend.mono e2) p2) (L2.Same.trans e1.1 e2) q2
theorem sim_tup {tr : TA} {mr : DTA} (hr : SimA C tr mr) : SimE C (tTup tr) (mTup mr) := fun Γ O σ H Qd Q R h k => by
  refine hr Γ O σ H _ _ R h fun rs Γ1 vs H1 R1 p1 e1 q1 => ?_
  obtain ⟨ds, h1, h2, q⟩ := q1
  have hr := dats_ok p1 h1
  refine ⟨by rw [hr.length]; exact Nat.le_trans h2 (by decide), fun p hp => (outs_of R1 e1 k).newT p vs ds hp hr q⟩
theorem sim_lst {tr : TA} {mr : DTA} (hr : SimA C tr mr) : SimE C (tLst tr) (mLst mr) := fun Γ O σ H Qd Q R h k => by
  refine hr Γ O σ H _ _ R h fun rs Γ1 vs H1 R1 p1 e1 q1 => ?_
  obtain ⟨ds, h1, h2, q⟩ := q1
  have hr := dats_ok p1 h1
  refine ⟨by rw [hr.length]; exact Nat.le_trans h2 (by decide), fun p hp => (outs_of R1 e1 k).new p _ _ hp (.lst hr) q⟩
theorem sim_cb {tr : TA} {mr : DTA} {r : List V → Hp → VK → Prop} {f : List D → (Res → Prop) → Prop} (ha : SimA C tr mr) (hr : SimRC C.K r f) : SimE C (tCB r tr) (mCB f mr) := fun Γ O σ H Qd Q R h k => by
  refine ha Γ O σ H _ _ R h fun rs Γ1 vs H1 R1 p1 e1 q1 => ?_
  obtain ⟨ds, h1, q⟩ := q1
  exact hr O H1 vs ds _ _ (rds_ok R1 p1 h1) q (outs_of R1 e1 k)
/-! ### rules -/
theorem de_op {op : Operator} {r : R2} {f : D → D → (Res → Prop) → Prop} (ho : OpR X (binaryOp op) r) (hr : SimR2 C.K r f) (ha : DE X C a ta ma) (hb : DE X C b tb mb) : DE X C (.BinOp a op b pos) (tOp r ta tb) (mOp f ma mb) :=
  ⟨pe_op ho ha.pe hb.pe, sim_op ha.sim hb.sim hr⟩
theorem de_cmp {op : CmpOp} {r : R2} {f : D → D → (Res → Prop) → Prop} (ho : OpR X (compareOp op) r) (hr : SimR2 C.K r f) (ha : DE X C a ta ma) (hb : DE X C b tb mb) (hm : behindInMarks op b = false) : DE X C (.Compare a [op] [b] pos) (tOp r ta tb) (mOp f ma mb) :=
  ⟨pe_cmpR ho ha.pe hb.pe hm, sim_op ha.sim hb.sim hr⟩
theorem dt_cmp {op : CmpOp} {r : R2} {f : D → D → (Res → Prop) → Prop} (ho : OpR X (compareOp op) r) (hr : SimR2 C.K r f) (ha : DE X C a ta ma) (hb : DE X C b tb mb) (hm : behindInMarks op b = false) : DT X C (.Compare a [op] [b] pos) (tTest (tOp r ta tb)) (mTest (mOp f ma mb)) :=
  ⟨pt_cmpR ho ha.pe hb.pe hm, sim_test (sim_op ha.sim hb.sim hr)⟩
theorem dt_val {t : TE} {m : DTE} (h : DE X C e t m) (he : ∀ whole, isTrue e X.env whole = (do let v ← whole; standAt e.pos; holding [v] (truthy v)) := by intro _; rfl) : DT X C e (tB t) (mTest m) := ⟨pt_val h.pe he, sim_test h.sim⟩
theorem dw_pt {t : TT} {m : DTT} (h : DW X C e t m) : DT X C e t m := ⟨h.pw.pt, h.sim⟩
theorem dw_and1 (ha : DT X C a tA mA) : DW X C (.BoolOp .And [a] pos) tA mA := ⟨pw_and1 ha.pt, ha.sim⟩
theorem dw_or1 (ha : DT X C a tA mA) : DW X C (.BoolOp .Or [a] pos) tA mA := ⟨pw_or1 ha.pt, ha.sim⟩
theorem dw_and {rest : List Expr} (ha : DT X C a tA mA) (hb : DW X C (.BoolOp .And (b :: rest) pos) tB' mB) : DW X C (.BoolOp .And (a :: b :: rest) pos) (tAnd tA tB') (mAnd mA mB) := ⟨pw_and ha.pt hb.pw, sim_and ha.sim hb.sim⟩
theorem dw_or {rest : List Expr} (ha : DT X C a tA mA) (hb : DW X C (.BoolOp .Or (b :: rest) pos) tB' mB) : DW X C (.BoolOp .Or (a :: b :: rest) pos) (tOr tA tB') (mOr mA mB) := ⟨pw_or ha.pt hb.pw, sim_or ha.sim hb.sim⟩
theorem dt_not (ha : DT X C a tA mA) : DT X C (.UnaryOp .Not a pos) (tNot tA) (mNot mA) := ⟨pt_not ha.pt, sim_not ha.sim⟩
theorem de_one {op} {t : TE} {m : DTE} (h : DE X C a t m) : DE X C (.BoolOp op [a] pos) t m := ⟨pe_one h.pe, h.sim⟩
theorem de_and {rest : List Expr} (ha : DE X C a ta ma) (hb : DE X C (.BoolOp .And (b :: rest) pos) tb mb) : DE X C (.BoolOp .And (a :: b :: rest) pos) (tAndV ta tb) (mAndV ma mb) := ⟨pe_and ha.pe hb.pe, sim_andV ha.sim hb.sim⟩
theorem de_if (hc : DT X C c tA mA) (ha : DE X C a ta ma) (hb : DE X C b tb mb) : DE X C (.IfExp c a b pos) (tIf tA ta tb) (mIf mA ma mb) := ⟨pe_ifExp hc.pt ha.pe hb.pe, sim_if hc.sim ha.sim hb.sim⟩
theorem da_nil : DA X C [] tNil mNil := ⟨pa_nil, sim_nil⟩
theorem da_cons {es : List Expr} {tr : TA} {mr : DTA} (ha : DE X C e ta ma) (hr : DA X C es tr mr) (hs : starEach (e :: es) X.env = (false, eval e X.env) :: starEach es X.env := by rfl) : DA X C (e :: es) (tCons ta tr) (mCons ma mr) := ⟨pa_cons ha.pe hr.pa hs, sim_cons ha.sim hr.sim⟩
theorem de_tup {es : List Expr} {tr : TA} {mr : DTA} {x1} (h : DA X C es tr mr) : DE X C (.Tuple es x1 pos) (tTup tr) (mTup mr) := ⟨pe_tup h.pa, sim_tup h.sim⟩
theorem de_lst {es : List Expr} {tr : TA} {mr : DTA} (h : DA X C es tr mr) : DE X C (.List es pos) (tLst tr) (mLst mr) := ⟨pe_lst h.pa, sim_lst h.sim⟩
/-- a call of a built-in by its name -/
theorem de_cb {id : String} {x : Str} {p : Pos} {es : List Expr} {tr : TA} {mr : DTA} {r : List V → Hp → VK → Prop} {f : List D → (Res → Prop) → Prop} (hc : CallR X (.builtin id) r) (hr : SimRC C.K r f) (hg : Gl X x) (hm : X.mg x = none) (hv : bootBuiltins x = some (.builtin id)) (ha : DA X C (e :: es) tr mr)
    (hn : x ≠ "__name__" := by decide) (hdb : (x == ("__debug__" : Str)) = false := by decide) (he : starEach (e :: es) X.env = (false, eval e X.env) :: starEach es X.env := by rfl) (hpl : (backTo pos (starEach es X.env)).any (·.1) = false := by rfl) :
    DE X C (.Call (.Name x p) (e :: es) [] pos) (tCB r tr) (mCB f mr) := ⟨pe_callB hc hg hm hv ha.pa hn hdb he hpl, sim_cb ha.sim hr⟩
theorem de_ct {T : String} {x : Str} {p : Pos} {es : List Expr} {tr : TA} {mr : DTA} {r : List V → Hp → VK → Prop} {f : List D → (Res → Prop) → Prop} (hc : CallR X (.type T) r) (hr : SimRC C.K r f) (hg : Gl X x) (hm : X.mg x = none) (hv : bootBuiltins x = some (.type T)) (ha : DA X C (e :: es) tr mr)
    (hn : x ≠ "__name__" := by decide) (hdb : (x == ("__debug__" : Str)) = false := by decide) (he : starEach (e :: es) X.env = (false, eval e X.env) :: starEach es X.env := by rfl) (hpl : (backTo pos (starEach es X.env)).any (·.1) = false := by rfl) :
    DE X C (.Call (.Name x p) (e :: es) [] pos) (tCB r tr) (mCB f mr) := ⟨pe_callTy hc hg hm hv ha.pa hn hdb he hpl, sim_cb ha.sim hr⟩
end
end DL
/-! the data layer, part 3: operators over data -/
namespace DL
open PySem L2 PyProof.Rows
/-! ### data as the library's data -/
def keyPy : Key → PyData
  | .inl i => .int i
  | .inr s => .str s
mutual
def toPy : D → PyData
  | .non => .none
  | .bl b => .bool b
  | .int i => .int i
  | .str s => .str s
  | .lst ds => .list (toPys ds)
  | .scr ds => .list (toPys ds)
  | .tup ds => .tuple (toPys ds)
  | .dic kvs => .dict (toPyK kvs)
  | .dit _ => .none
  | .dkl kvs => .dict (toPyK kvs)
  | .dtl _ => .none
  | .pnK _ _ => .none
  | .pnT _ _ => .none
  | .obj _ _ _ => .none
  | .cls _ => .none
  | .xcl _ _ => .none
def toPys : List D → List PyData
  | [] => []
  | d :: ds => toPy d :: toPys ds
def toPyK : List (Key × D) → List (PyData × PyData)
  | [] => []
  | (k, d) :: ds => (keyPy k, toPy d) :: toPyK ds
end
/-! no dict, no object within -/
mutual
def plain : D → Bool
  | .non => true
  | .bl _ => true
  | .int _ => true
  | .str _ => true
  | .lst ds => plains ds
  | .scr ds => plains ds
  | .tup ds => plains ds
  | .dic _ => false
  | .dit _ => false
  | .dkl _ => false
  | .dtl _ => false
  | .pnK _ _ => false
  | .pnT _ _ => false
  | .obj _ _ _ => false
  | .cls _ => false
  | .xcl _ _ => false
def plains : List D → Bool
  | [] => true
  | d :: ds => plain d && plains ds
end
section
variable {K : Fg} {H : Hp}
mutual
theorem Rep.dp : ∀ {v : V} {d : D}, Rep K H v d → plain d = true → Dp K H v (toPy d)
  | _, _, .non, _ => by rw [toPy]; exact .non
  | _, _, .bl b, _ => by rw [toPy]; exact .bl b
  | _, _, .int i, _ => by rw [toPy]; exact .int i
  | _, _, .str x, _ => by rw [toPy]; exact .str x
  | _, _, .lst h r, e => by rw [toPy]; exact .lst (SqL.of h) (Reps.dp r (by rw [plain] at e; exact e))
  | _, _, .scr h r, e => by rw [toPy]; exact .lst h (Reps.dp r (by rw [plain] at e; exact e))
  | _, _, .tup h r, e => by rw [toPy]; exact .tup (SqT.of h) (Reps.dp r (by rw [plain] at e; exact e))
  | _, _, .dic _ _, e => by rw [plain] at e; cases e
  | _, _, .dit _ _, e => by rw [plain] at e; cases e
  | _, _, .dkl _ _, e => by rw [plain] at e; cases e
  | _, _, .dtl _ _, e => by rw [plain] at e; cases e
  | _, _, .pnK _, e => by rw [plain] at e; cases e
  | _, _, .pnT _, e => by rw [plain] at e; cases e
  | _, _, .obj _ _ _, e => by rw [plain] at e; cases e
  | _, _, .cls _, e => by rw [plain] at e; cases e
  | _, _, .xcl _, e => by rw [plain] at e; cases e
theorem Reps.dp : ∀ {v : List V} {d : List D}, Reps K H v d → plains d = true → DpAll K H v (toPys d)
  | _, _, .nil, _ => by rw [toPys]; exact .nil
  | _, _, .cons h r, e => by
    rw [plains, Bool.and_eq_true] at e
    rw [toPys]; exact .cons (Rep.dp h e.1) (Reps.dp r e.2)
end
end
theorem B2.dp {K : Fg} {O : List Addr} {H : Hp} {v : V} {d : D} (h : B2 K O H v d) (e : plain d = true) : Dp K H v (toPy d) := by
  rcases h with h | ⟨l, o, rfl, h1, h⟩
  · exact (h.mono hide_same).dp e
  · exact ((h.mono hide_same).rep h1).dp e
/-- two data may be compared by == -/
def okE (d : D) : Bool := plain d && SeqAt.shaped (toPy d)
def eqv (a b : D) : Bool := PyData.eqv (toPy a) (toPy b)
/-! ### operators -/
def addD : D → D → (Res → Prop) → Prop
  | .int i, .int j, Q => Q (.val (.int (i + j)))
  | .lst xs, .lst ys, Q => xs.length + ys.length ≤ 100000 ∧ Q (.fr (.lst (xs ++ ys)))
  | .str x, .str y, Q => x.length + y.length ≤ 100000 ∧ Q (.val (.str (x ++ y)))
  | _, _, _ => False
def subD : D → D → (Res → Prop) → Prop
  | .int i, .int j, Q => Q (.val (.int (i - j)))
  | _, _, _ => False
def MulOk (i j : Int) : Prop := CMul i j ∨ CMulW i j
def mulD : D → D → (Res → Prop) → Prop
  | .int i, .int j, Q => MulOk i j ∧ Q (.val (.int (i * j)))
  | .lst xs, .int k, Q => (-(2 ^ 63) ≤ k ∧ k < 2 ^ 63 ∧ xs.length * k.toNat ≤ 100000) ∧ Q (.fr (.lst (List.replicate k.toNat xs).flatten))
  | _, _, _ => False
def fdivD : D → D → (Res → Prop) → Prop
  | .int i, .int j, Q => CDivW i j ∧ Q (.val (.int (i / j)))
  | _, _, _ => False
def modD : D → D → (Res → Prop) → Prop
  | .int i, .int j, Q => 0 < j ∧ Q (.val (.int (i % j)))
  | _, _, _ => False
def PowOk (i j : Int) : Prop := 0 ≤ j ∧ (Builtin.Int.intBits i : Int) * j ≤ 2 ^ 27
def powD : D → D → (Res → Prop) → Prop
  | .int i, .int j, Q => PowOk i j ∧ Q (.val (.int (i ^ j.toNat)))
  | _, _, _ => False
def negD : D → (Res → Prop) → Prop
  | .int i, Q => Q (.val (.int (-i)))
  | _, _ => False
def ltD : D → D → (Res → Prop) → Prop
  | .int i, .int j, Q => Q (.val (.bl (decide (i < j))))
  | _, _, _ => False
def leD : D → D → (Res → Prop) → Prop
  | .int i, .int j, Q => Q (.val (.bl (decide (i ≤ j))))
  | _, _, _ => False
def gtD : D → D → (Res → Prop) → Prop
  | .int i, .int j, Q => Q (.val (.bl (decide (j < i))))
  | _, _, _ => False
def geD : D → D → (Res → Prop) → Prop
  | .int i, .int j, Q => Q (.val (.bl (decide (j ≤ i))))
  | _, _, _ => False
def eqD (a b : D) (Q : Res → Prop) : Prop := okE a = true ∧ okE b = true ∧ Q (.val (.bl (eqv a b)))
def neD (a b : D) (Q : Res → Prop) : Prop := okE a = true ∧ okE b = true ∧ Q (.val (.bl (!eqv a b)))
def isNonD : D → Bool
  | .non => true
  | _ => false
/-- x is None, x is True (x a truth value) -/
def isD : D → D → (Res → Prop) → Prop
  | .bl x, .bl y, Q => Q (.val (.bl (decide (x = y))))
  | a, .non, Q => Q (.val (.bl (isNonD a)))
  | _, _, _ => False
def isNotD : D → D → (Res → Prop) → Prop
  | .bl x, .bl y, Q => Q (.val (.bl (!decide (x = y))))
  | a, .non, Q => Q (.val (.bl (!isNonD a)))
  | _, _, _ => False
/-- x[i] -/
def ixD : D → D → (Res → Prop) → Prop
  | .lst ds, .int i, Q => ∃ d, atI ds i = some d ∧ Q (.val d)
  | .tup ds, .int i, Q => ∃ d, atI ds i = some d ∧ Q (.val d)
  | .str z, .int i, Q => z.length ≤ 100000 ∧ ∃ c, atI z.cps.toList i = some c ∧ Q (.val (.str ⟨#[c]⟩))
  | _, _, _ => False
section
variable {X : Cx} {K : Fg}
def uAdd : R2 := fun x y H Q => (∃ i j, x = .int i ∧ y = .int j ∧ Q (.int (i + j)) H) ∨ (rCat x y H Q ∨ ∃ i j, x = .str i ∧ y = .str j ∧ i.length + j.length ≤ sizeLine ∧ Q (.str (i ++ j)) H)
theorem op_uAdd : OpR X (binaryOp .Add) uAdd := op_add.or (op_cat.or op_add_str)
theorem sz5 {n : Nat} (h : n ≤ 100000) : n ≤ sizeLine := Nat.le_trans h (by decide)
theorem sim_add : SimR2 K uAdd addD := fun O H x y a b Qd Q h1 h2 q k => by
  unfold addD at q
  split at q
  · obtain rfl := h1.int; obtain rfl := h2.int
    exact .inl ⟨_, _, rfl, rfl, k.val _ _ (.int _) q⟩
  · obtain ⟨p1, vs, rfl, e1, r1⟩ := h1.lst
    obtain ⟨p2, ws, rfl, e2, r2⟩ := h2.lst
    exact .inr (.inl ⟨p1, p2, vs, ws, rfl, rfl, e1, e2, by rw [r1.length, r2.length]; exact sz5 q.1, fun p hp => k.new p _ _ hp (.lst (r1.append r2)) q.2⟩)
  · obtain rfl := h1.str; obtain rfl := h2.str
    exact .inr (.inr ⟨_, _, rfl, rfl, sz5 q.1, k.val _ _ (.str _) q.2⟩)
  · exact q.elim
theorem sim_I0 {g : Int → Int → Int} {f : D → D → (Res → Prop) → Prop} (hf : ∀ a b Qd, f a b Qd → ∃ i j, a = .int i ∧ b = .int j ∧ Qd (.val (.int (g i j)))) : SimR2 K (rI0 fun i j => .int (g i j)) f := fun O H x y a b Qd Q h1 h2 q k => by
  obtain ⟨i, j, rfl, rfl, q2⟩ := hf a b Qd q
  obtain rfl := h1.int; obtain rfl := h2.int
  exact ⟨i, j, rfl, rfl, k.val _ _ (.int _) q2⟩
theorem sim_B0 {g : Int → Int → Bool} {f : D → D → (Res → Prop) → Prop} (hf : ∀ a b Qd, f a b Qd → ∃ i j, a = .int i ∧ b = .int j ∧ Qd (.val (.bl (g i j)))) : SimR2 K (rI0 fun i j => .bl (g i j)) f := fun O H x y a b Qd Q h1 h2 q k => by
  obtain ⟨i, j, rfl, rfl, q2⟩ := hf a b Qd q
  obtain rfl := h1.int; obtain rfl := h2.int
  exact ⟨i, j, rfl, rfl, k.val _ _ (.bl _) q2⟩
theorem sim_I {Cn : Int → Int → Prop} {g : Int → Int → Int} {f : D → D → (Res → Prop) → Prop} (hf : ∀ a b Qd, f a b Qd → ∃ i j, a = .int i ∧ b = .int j ∧ Cn i j ∧ Qd (.val (.int (g i j)))) : SimR2 K (rI Cn fun i j => .int (g i j)) f := fun O H x y a b Qd Q h1 h2 q k => by
  obtain ⟨i, j, rfl, rfl, c, q2⟩ := hf a b Qd q
  obtain rfl := h1.int; obtain rfl := h2.int
  exact ⟨i, j, rfl, rfl, c, k.val _ _ (.int _) q2⟩
theorem sim_sub : SimR2 K (rI0 fun i j => .int (i - j)) subD := sim_I0 fun a b Qd q => by
  unfold subD at q
  split at q
  · exact ⟨_, _, rfl, rfl, q⟩
  · exact q.elim
theorem sim_lt : SimR2 K (rI0 fun i j => .bl (decide (i < j))) ltD := sim_B0 fun a b Qd q => by
  unfold ltD at q
  split at q
  · exact ⟨_, _, rfl, rfl, q⟩
  · exact q.elim
theorem sim_le : SimR2 K (rI0 fun i j => .bl (decide (i ≤ j))) leD := sim_B0 fun a b Qd q => by
  unfold leD at q
  split at q
  · exact ⟨_, _, rfl, rfl, q⟩
  · exact q.elim
theorem sim_gt : SimR2 K (rI0 fun i j => .bl (decide (j < i))) gtD := sim_B0 fun a b Qd q => by
  unfold gtD at q
  split at q
  · exact ⟨_, _, rfl, rfl, q⟩
  · exact q.elim
theorem sim_ge : SimR2 K (rI0 fun i j => .bl (decide (j ≤ i))) geD := sim_B0 fun a b Qd q => by
  unfold geD at q
  split at q
  · exact ⟨_, _, rfl, rfl, q⟩
  · exact q.elim
theorem sim_fdiv : SimR2 K (rI CDivW fun i j => .int (i / j)) fdivD := sim_I fun a b Qd q => by
  unfold fdivD at q
  split at q
  · exact ⟨_, _, rfl, rfl, q.1, q.2⟩
  · exact q.elim
theorem sim_mod : SimR2 K (rI (fun _ j => 0 < j) fun i j => .int (i % j)) modD := sim_I fun a b Qd q => by
  unfold modD at q
  split at q
  · exact ⟨_, _, rfl, rfl, q.1, q.2⟩
  · exact q.elim
theorem op_powW : OpR X (binaryOp .Pow) (rI PowOk fun i j => .int (i ^ j.toNat)) := opI fun _ _ _ _ _ _ _ hc q => pow_int hc.1 hc.2 q
theorem sim_pow : SimR2 K (rI PowOk fun i j => .int (i ^ j.toNat)) powD := sim_I fun a b Qd q => by
  unfold powD at q
  split at q
  · exact ⟨_, _, rfl, rfl, q.1, q.2⟩
  · exact q.elim
def uMul : R2 := fun x y H Q => (rI CMul fun i j => .int (i * j)) x y H Q ∨ ((rI CMulW fun i j => .int (i * j)) x y H Q ∨ rRep x y H Q)
theorem op_uMul : OpR X (binaryOp .Mult) uMul := op_mul.or (op_mulW.or op_rep)
theorem sim_mul : SimR2 K uMul mulD := fun O H x y a b Qd Q h1 h2 q k => by
  unfold mulD at q
  split at q
  · obtain rfl := h1.int; obtain rfl := h2.int
    rcases q.1 with c | c
    · exact .inl ⟨_, _, rfl, rfl, c, k.val _ _ (.int _) q.2⟩
    · exact .inr (.inl ⟨_, _, rfl, rfl, c, k.val _ _ (.int _) q.2⟩)
  · obtain ⟨p1, vs, rfl, e1, r1⟩ := h1.lst
    obtain rfl := h2.int
    exact .inr (.inr ⟨p1, _, vs, rfl, rfl, e1, q.1.1, q.1.2.1, by rw [r1.length]; exact sz5 q.1.2.2, fun p hp => k.new p _ _ hp (.lst (r1.rep _)) q.2⟩)
  · exact q.elim
theorem sim_eq : SimR2 K (rEqD K) eqD := fun O H x y a b Qd Q h1 h2 q k => by
  obtain ⟨q1, q2, q⟩ := q
  unfold okE at q1 q2
  rw [Bool.and_eq_true] at q1 q2
  exact ⟨_, _, h1.dp q1.1, h2.dp q2.1, q1.2, q2.2, k.val _ _ (.bl _) q⟩
theorem sim_ne : SimR2 K (rNeD K) neD := fun O H x y a b Qd Q h1 h2 q k => by
  obtain ⟨q1, q2, q⟩ := q
  unfold okE at q1 q2
  rw [Bool.and_eq_true] at q1 q2
  exact ⟨_, _, h1.dp q1.1, h2.dp q2.1, q1.2, q2.2, k.val _ _ (.bl _) q⟩
theorem Reps.atI {H : Hp} {vs : List V} {ds : List D} {i : Int} {d : D} (r : Reps K H vs ds) (h : L2.atI ds i = some d) : ∃ v, L2.atI vs i = some v ∧ Rep K H v d := by
  unfold L2.atI at h ⊢
  rw [r.length]
  cases e : ixN ds.length i with
  | none => rw [e] at h; cases h
  | some j =>
    rw [e] at h
    exact r.get h
theorem sim_ix : SimR2 K (rIx K) ixD := fun O H x y a b Qd Q h1 h2 q k => by
  unfold ixD at q
  split at q
  · obtain ⟨p, vs, rfl, e, r⟩ := h1.lst
    obtain rfl := h2.int
    obtain ⟨d, hd, q⟩ := q
    obtain ⟨v, hv, rv⟩ := r.atI hd
    exact .inl ⟨p, vs, _, v, rfl, rfl, SqL.of e, hv, k.val _ _ rv q⟩
  · obtain ⟨p, vs, rfl, e, r⟩ := h1.tup
    obtain rfl := h2.int
    obtain ⟨d, hd, q⟩ := q
    obtain ⟨v, hv, rv⟩ := r.atI hd
    exact .inr (.inl ⟨p, vs, _, v, rfl, rfl, SqT.of e, hv, k.val _ _ rv q⟩)
  · obtain rfl := h1.str
    obtain rfl := h2.int
    obtain ⟨hz, c, hc, q⟩ := q
    exact .inr (.inr ⟨_, _, c, rfl, rfl, sz5 hz, hc, k.val _ _ (.str _) q⟩)
  · exact q.elim
end
/-! ### rules -/
section
variable {X : Cx} {C : Ctx} {ta tb tc : TE} {ma mb mc : DTE} {a b c e : Expr} {pos : Pos}
theorem de_add (ha : DE X C a ta ma) (hb : DE X C b tb mb) : DE X C (.BinOp a .Add b pos) (tOp uAdd ta tb) (mOp addD ma mb) := de_op op_uAdd sim_add ha hb
theorem de_sub (ha : DE X C a ta ma) (hb : DE X C b tb mb) : DE X C (.BinOp a .Sub b pos) (tOp (rI0 fun i j => .int (i - j)) ta tb) (mOp subD ma mb) := de_op op_sub sim_sub ha hb
theorem de_mul (ha : DE X C a ta ma) (hb : DE X C b tb mb) : DE X C (.BinOp a .Mult b pos) (tOp uMul ta tb) (mOp mulD ma mb) := de_op op_uMul sim_mul ha hb
theorem de_fdiv (ha : DE X C a ta ma) (hb : DE X C b tb mb) : DE X C (.BinOp a .FloorDiv b pos) (tOp (rI CDivW fun i j => .int (i / j)) ta tb) (mOp fdivD ma mb) := de_op op_fdivW sim_fdiv ha hb
theorem de_mod (ha : DE X C a ta ma) (hb : DE X C b tb mb) : DE X C (.BinOp a .Mod b pos) (tOp (rI (fun _ j => 0 < j) fun i j => .int (i % j)) ta tb) (mOp modD ma mb) := de_op op_mod sim_mod ha hb
theorem de_pow (ha : DE X C a ta ma) (hb : DE X C b tb mb) : DE X C (.BinOp a .Pow b pos) (tOp (rI PowOk fun i j => .int (i ^ j.toNat)) ta tb) (mOp powD ma mb) := de_op op_powW sim_pow ha hb
theorem de_gt (ha : DE X C a ta ma) (hb : DE X C b tb mb) : DE X C (.Compare a [.Gt] [b] pos) (tOp (rI0 fun i j => .bl (decide (j < i))) ta tb) (mOp gtD ma mb) := de_cmp op_gt sim_gt ha hb (nomark _)
theorem de_eq (hu : X.A.units + 64 < cLine) (ha : DE X C a ta ma) (hb : DE X C b tb mb) {K0 : Fg} (hK0 : X.K = K0 := by rfl) (hK : K0 = C.K := by rfl) : DE X C (.Compare a [.Eq] [b] pos) (tOp (rEqD K0) ta tb) (mOp eqD ma mb) := by
  subst hK0
  exact (de_cmp (op_eqD hu) (by rw [hK]; exact sim_eq) ha hb (nomark _))
theorem de_ne (hu : X.A.units + 64 < cLine) (ha : DE X C a ta ma) (hb : DE X C b tb mb) {K0 : Fg} (hK0 : X.K = K0 := by rfl) (hK : K0 = C.K := by rfl) : DE X C (.Compare a [.NotEq] [b] pos) (tOp (rNeD K0) ta tb) (mOp neD ma mb) := by
  subst hK0
  exact (de_cmp (op_neD hu) (by rw [hK]; exact sim_ne) ha hb (nomark _))
theorem de_ix (ha : DE X C a ta ma) (hb : DE X C b tb mb) (hs : PlainIx b := by intro _ _; rfl) {K0 : Fg} (hK0 : X.K = K0 := by rfl) (hK : K0 = C.K := by rfl) : DE X C (.Subscript a b pos) (tOp (rIx K0) ta tb) (mOp ixD ma mb) := by
  subst hK0
  exact (⟨pe_ix ix_seq ha.pe hb.pe hs, sim_op ha.sim hb.sim (by rw [hK]; exact sim_ix)⟩)
end
end DL
/-! the data layer, part 4: built-ins, slices, methods of built-in types over data -/
namespace DL
open PySem L2 PyProof.Rows
def ints? : List D → Option (List Int)
  | [] => some []
  | .int i :: ds => match ints? ds with
    | some ns => some (i :: ns)
    | none => none
  | _ :: _ => none
def bls? : List D → Option (List Bool)
  | [] => some []
  | .bl i :: ds => match bls? ds with
    | some ns => some (i :: ns)
    | none => none
  | _ :: _ => none
theorem ints?_eq : ∀ {ds : List D} {ns : List Int}, ints? ds = some ns → ds = ns.map D.int
  | [], ns, h => by cases h; rfl
  | d :: ds, ns, h => by
    cases d <;> simp only [ints?] at h <;> try cases h
    split at h
    · rename_i ms e
      cases h
      rw [ints?_eq e]; rfl
    · cases h
theorem ints?_map : ∀ ns : List Int, ints? (ns.map D.int) = some ns
  | [] => rfl
  | n :: ns => by rw [List.map_cons, ints?, ints?_map ns]
theorem bls?_map : ∀ ns : List Bool, bls? (ns.map D.bl) = some ns
  | [] => rfl
  | n :: ns => by rw [List.map_cons, bls?, bls?_map ns]
/-! ### built-ins by values -/
def lenD : List D → (Res → Prop) → Prop
  | [.lst ds], Q => Q (.val (.int ds.length))
  | [.scr ds], Q => Q (.val (.int ds.length))
  | [.tup ds], Q => Q (.val (.int ds.length))
  | [.str z], Q => z.length ≤ 100000 ∧ Q (.val (.int z.length))
  | [.dic kvs], Q => Q (.val (.int kvs.length))
  | _, _ => False
def intD : List D → (Res → Prop) → Prop
  | [.int i], Q => Q (.val (.int i))
  | [.bl b], Q => Q (.val (.int (if b then 1 else 0)))
  | _, _ => False
def absD : List D → (Res → Prop) → Prop
  | [.int i], Q => Q (.val (.int (i.natAbs : Int)))
  | _, _ => False
def minD : List D → (Res → Prop) → Prop
  | [.int i, .int j], Q => Q (.val (.int (min i j)))
  | [.tup ds], Q => ∃ ns, ints? ds = some ns ∧ 0 < ns.length ∧ ∀ m, m ∈ ns → (∀ y, y ∈ ns → m ≤ y) → Q (.val (.int m))
  | [.lst ds], Q => ∃ ns, ints? ds = some ns ∧ 0 < ns.length ∧ ∀ m, m ∈ ns → (∀ y, y ∈ ns → m ≤ y) → Q (.val (.int m))
  | _, _ => False
def maxD : List D → (Res → Prop) → Prop
  | [.int i, .int j], Q => Q (.val (.int (max i j)))
  | [.tup ds], Q => ∃ ns, ints? ds = some ns ∧ 0 < ns.length ∧ ∀ m, m ∈ ns → (∀ y, y ∈ ns → y ≤ m) → Q (.val (.int m))
  | [.lst ds], Q => ∃ ns, ints? ds = some ns ∧ 0 < ns.length ∧ ∀ m, m ∈ ns → (∀ y, y ∈ ns → y ≤ m) → Q (.val (.int m))
  | _, _ => False
def sumD : List D → (Res → Prop) → Prop
  | [.lst ds], Q => ∃ ns, ints? ds = some ns ∧ Q (.val (.int ns.sum))
  | [.tup ds], Q => ∃ ns, ints? ds = some ns ∧ Q (.val (.int ns.sum))
  | _, _ => False
section
variable {prog : Program} {w : World} {A : Around} {E : Value → Shared → Prop} {s : Shared} {t : Addr} {xs : Array (Int × Tok)} {its : List Value} {ns : List Int}
theorem iter_tup {Q : Value → Shared → Prop} (hl : s.heap.IsTuple t (intItems xs))
    (h : ∀ s₂ : Shared, s₂ = { s with heap := s.heap.push { cls := .type "tuple_iterator", data := .fields #[.ref t, .int 0 0] } } →
      (s₂.heap.IsTupleIter s.heap.objs.size t 0 ∧ s₂.heap.IsTuple t (intItems xs)) → (∀ b ∈ [s.heap.objs.size, t], b < s₂.heap.objs.size) → t ≠ s.heap.objs.size → Q (.ref s.heap.objs.size) s₂) :
    wpAny (model prog w) A (pyIter (.ref t)) Q E s := by
  have hlt : t < s.heap.objs.size := by obtain ⟨_, e, _⟩ := hl; exact Heap.lt_size e
  refine wpAny_pyIter_tuple hl (h _ rfl ⟨⟨_, Heap.get?_push_size _ rfl, rfl, rfl⟩, hl.push _⟩ (fun b hb => ?_) (Nat.ne_of_lt hlt))
  show b < (s.heap.push _).objs.size
  rw [Heap.size_push]
  rcases List.mem_cons.mp hb with rfl | hb
  · exact Nat.lt_succ_self _
  · rcases List.mem_cons.mp hb with rfl | hb
    · exact Nat.lt_succ_of_lt hlt
    · cases hb
theorem old_tup {h' : Heap} (hk : ∀ b o, b ∉ [s.heap.objs.size] → (s.heap.push { cls := .type "tuple_iterator", data := .fields #[.ref t, .int 0 0] }).get? b = some o → h'.get? b = some o) :
    ∀ b o, s.heap.get? b = some o → h'.get? b = some o := fun b o e => by
  refine hk b o (fun hm => ?_) (Heap.get?_push_of_some _ e)
  rcases List.mem_cons.mp hm with e1 | hm
  · exact absurd (e1 ▸ Heap.lt_size e) (Nat.lt_irrefl _)
  · cases hm
theorem max_tup {Q : Value → Shared → Prop} (hh : A.handled = none) (hl : s.heap.IsTuple t its.toArray) (hi : PyProof.Rows.IntsAre its ns) (hne : 0 < ns.length)
    (h : ∀ h' tk M t', (∀ b o, s.heap.get? b = some o → h'.get? b = some o) → M ∈ ns → (∀ a, a ∈ ns → a ≤ M) → Q (.int M t') { s with heap := h', toks := tk }) : wpAny (model prog w) A (call (.builtin "max") [.ref t]) Q E s := by
  obtain ⟨xs, e⟩ := hi.allInts.items
  have hn : PySem.numsOf (intItems xs).toList = ns := by rw [← e]; exact hi.numsOf
  rw [PySem.nums_intItems] at hn
  subst hn
  rw [e] at hl
  have hsz : 0 < xs.size := by simpa using hne
  refine call_max_walk (iter_tup hl fun s₂ e st hfp hlI => ?_)
  subst e
  refine ⟨_, _, _, _, _, _, _, rfl, Walks.tuple (A := A.in1) hh _ t hlI (intItems xs), st, hfp, by simpa [intItems] using hsz, CmpOf.ints_gt (numAt xs) (fun _ _ => intItems_at), fun v h' tk hP hk => ?_⟩
  have hv : (intItems xs)[PySem.argBest (fun i j => decide (numAt xs i > numAt xs j)) (xs.size - 1)]? = some v := by simpa [intItems] using hP
  obtain ⟨t', rfl⟩ := intItems_at hv
  obtain ⟨h1, h2⟩ := PySem.argBest_gt (numAt xs) (xs.size - 1)
  refine h h' tk _ t' (old_tup hk) ?_ fun a ha => ?_
  · rw [PySem.numAt_eq]; exact PySem.getD_mem (by rw [List.length_map, Array.length_toList]; omega)
  · obtain ⟨j, hj, rfl⟩ := mem_getD ha
    rw [List.length_map, Array.length_toList] at hj
    rw [← PySem.numAt_eq]; exact h2 j (by omega)
theorem min_tup {Q : Value → Shared → Prop} (hh : A.handled = none) (hl : s.heap.IsTuple t its.toArray) (hi : PyProof.Rows.IntsAre its ns) (hne : 0 < ns.length)
    (h : ∀ h' tk M t', (∀ b o, s.heap.get? b = some o → h'.get? b = some o) → M ∈ ns → (∀ a, a ∈ ns → M ≤ a) → Q (.int M t') { s with heap := h', toks := tk }) : wpAny (model prog w) A (call (.builtin "min") [.ref t]) Q E s := by
  obtain ⟨xs, e⟩ := hi.allInts.items
  have hn : PySem.numsOf (intItems xs).toList = ns := by rw [← e]; exact hi.numsOf
  rw [PySem.nums_intItems] at hn
  subst hn
  rw [e] at hl
  have hsz : 0 < xs.size := by simpa using hne
  refine call_min_walk (iter_tup hl fun s₂ e st hfp hlI => ?_)
  subst e
  refine ⟨_, _, _, _, _, _, _, rfl, Walks.tuple (A := A.in1) hh _ t hlI (intItems xs), st, hfp, by simpa [intItems] using hsz, CmpOf.ints_lt (numAt xs) (fun _ _ => intItems_at), fun v h' tk hP hk => ?_⟩
  have hv : (intItems xs)[PySem.argBest (fun i j => decide (numAt xs i < numAt xs j)) (xs.size - 1)]? = some v := by simpa [intItems] using hP
  obtain ⟨t', rfl⟩ := intItems_at hv
  obtain ⟨h1, h2⟩ := PySem.argBest_lt (numAt xs) (xs.size - 1)
  refine h h' tk _ t' (old_tup hk) ?_ fun a ha => ?_
  · rw [PySem.numAt_eq]; exact PySem.getD_mem (by rw [List.length_map, Array.length_toList]; omega)
  · obtain ⟨j, hj, rfl⟩ := mem_getD ha
    rw [List.length_map, Array.length_toList] at hj
    rw [← PySem.numAt_eq]; exact h2 j (by omega)
end
def rMaxT (K : Fg) : List V → Hp → VK → Prop := fun vs H Q => ∃ (a : Addr) (ns : List Int), vs = [V.ref a] ∧ SqT K H a (ns.map V.int) ∧ 0 < ns.length ∧ ∀ m, m ∈ ns → (∀ y, y ∈ ns → y ≤ m) → Q (.int m) H
def rMinT (K : Fg) : List V → Hp → VK → Prop := fun vs H Q => ∃ (a : Addr) (ns : List Int), vs = [V.ref a] ∧ SqT K H a (ns.map V.int) ∧ 0 < ns.length ∧ ∀ m, m ∈ ns → (∀ y, y ∈ ns → m ≤ y) → Q (.int m) H
theorem cr_maxT {X : Cx} (hc : X.calm = true) : CallR X (.builtin "max") (rMaxT X.K) := by
  intro pins s σ H vs us Q I r h
  obtain ⟨a, ns, rfl, hs, hne, q⟩ := h
  obtain ⟨its, rv, hl, _⟩ := I.tuple hs
  rw [Vals.ref1 r]
  exact max_tup (I.ok.hd hc) hl rv.ints hne fun h' tk m t' hk h1 h2 => ⟨.int _, H, I.kept hk, ⟨_, rfl⟩, q m h1 h2⟩
theorem cr_minT {X : Cx} (hc : X.calm = true) : CallR X (.builtin "min") (rMinT X.K) := by
  intro pins s σ H vs us Q I r h
  obtain ⟨a, ns, rfl, hs, hne, q⟩ := h
  obtain ⟨its, rv, hl, _⟩ := I.tuple hs
  rw [Vals.ref1 r]
  exact min_tup (I.ok.hd hc) hl rv.ints hne fun h' tk m t' hk h1 h2 => ⟨.int _, H, I.kept hk, ⟨_, rfl⟩, q m h1 h2⟩
def allD : List D → (Res → Prop) → Prop
  | [.lst ds], Q => ∃ ns, bls? ds = some ns ∧ Q (.val (.bl (ns.all id)))
  | _, _ => False
def anyD : List D → (Res → Prop) → Prop
  | [.lst ds], Q => ∃ ns, bls? ds = some ns ∧ Q (.val (.bl (ns.any id)))
  | _, _ => False
def sortedD : List D → (Res → Prop) → Prop
  | [.lst ds], Q => ∃ ns, ints? ds = some ns ∧ ∀ ms : List Int, ms.Perm ns → ms.Pairwise (· ≤ ·) → Q (.fr (.lst (ms.map D.int)))
  | _, _ => False
def listD : List D → (Res → Prop) → Prop
  | [.lst ds], Q => Q (.fr (.lst ds))
  | [.scr ds], Q => Q (.fr (.lst ds))
  | [.tup ds], Q => Q (.fr (.lst ds))
  | _, _ => False
def tupleD : List D → (Res → Prop) → Prop
  | [.lst ds], Q => Q (.val (.tup ds))
  | [.tup ds], Q => Q (.val (.tup ds))
  | _, _ => False
def divmodD : List D → (Res → Prop) → Prop
  | [.int i, .int j], Q => CDiv i j ∧ Q (.val (.tup [.int (i / j), .int (i % j)]))
  | _, _ => False
section
variable {K : Fg} {O : List Addr} {H : Hp} {x y : V}
theorem B2s.one {vs : List V} {d : D} (h : B2s K O H vs [d]) : ∃ v, vs = [v] ∧ B2 K O H v d := by
  cases h with | cons h t => cases t; exact ⟨_, rfl, h⟩
theorem B2s.two {vs : List V} {d e : D} (h : B2s K O H vs [d, e]) : ∃ v w, vs = [v, w] ∧ B2 K O H v d ∧ B2 K O H w e := by
  cases h with | cons h t => cases t with | cons h' t => cases t; exact ⟨_, _, rfl, h, h'⟩
theorem RepK.length : ∀ {vs : List (Key × V)} {ds : List (Key × D)}, RepK K H vs ds → vs.length = ds.length
  | _, _, .nil => rfl
  | _, _, .cons _ r => by rw [List.length_cons, List.length_cons, RepK.length r]
end
section
variable {X : Cx} {K : Fg}
def uLen (K : Fg) : List V → Hp → VK → Prop := fun xs H Q => (∃ x n, xs = [x] ∧ LenV K x H n ∧ Q (.int n) H) ∨ ∃ a kvs, xs = [V.ref a] ∧ H a = some (.dK kvs) ∧ Q (.int kvs.length) H
theorem cr_uLen : CallR X (.builtin "len") (uLen X.K) := call_len.or call_lenD
theorem sim_len : SimRC K (uLen K) lenD := fun O H vs ds Qd Q h q k => by
  unfold lenD at q
  split at q
  · obtain ⟨v, rfl, hb⟩ := h.one
    obtain ⟨p, vs, rfl, e, r⟩ := hb.lst
    exact .inl ⟨_, vs.length, rfl, .inl ⟨vs, SqL.of e, rfl⟩, k.val _ _ (by rw [r.length]; exact .int _) q⟩
  · obtain ⟨v, rfl, hb⟩ := h.one
    obtain ⟨p, vs, rfl, e, r⟩ := hb.scr
    exact .inl ⟨_, vs.length, rfl, .inl ⟨vs, e, rfl⟩, k.val _ _ (by rw [r.length]; exact .int _) q⟩
  · obtain ⟨v, rfl, hb⟩ := h.one
    obtain ⟨p, vs, rfl, e, r⟩ := hb.tup
    exact .inl ⟨_, vs.length, rfl, .inr ⟨vs, SqT.of e, rfl⟩, k.val _ _ (by rw [r.length]; exact .int _) q⟩
  · obtain ⟨v, rfl, hb⟩ := h.one
    obtain rfl := hb.str
    exact .inl ⟨_, _, rfl, ⟨sz5 q.1, rfl⟩, k.val _ _ (.int _) q.2⟩
  · obtain ⟨v, rfl, hb⟩ := h.one
    obtain ⟨p, vs, rfl, e, r⟩ := hb.dic
    exact .inr ⟨p, vs, rfl, e, k.val _ _ (by rw [r.length]; exact .int _) q⟩
  · exact q.elim
def uInt : List V → Hp → VK → Prop := fun xs H Q => (∃ i, xs = [.int i] ∧ Q (.int i) H) ∨ ∃ k, xs = [.bl k] ∧ Q (.int (if k then 1 else 0)) H
theorem sim_int : SimRC K uInt intD := fun O H vs ds Qd Q h q k => by
  unfold intD at q
  split at q
  · obtain ⟨v, rfl, hb⟩ := h.one
    obtain rfl := hb.int
    exact .inl ⟨_, rfl, k.val _ _ (.int _) q⟩
  · obtain ⟨v, rfl, hb⟩ := h.one
    obtain rfl := hb.bl
    exact .inr ⟨_, rfl, k.val _ _ (.int _) q⟩
  · exact q.elim
def uAbs : List V → Hp → VK → Prop := fun xs H Q => ∃ i, xs = [.int i] ∧ Q (.int (if i < 0 then -i else i)) H
theorem sim_abs : SimRC K uAbs absD := fun O H vs ds Qd Q h q k => by
  unfold absD at q
  split at q
  · rename_i i
    obtain ⟨v, rfl, hb⟩ := h.one
    obtain rfl := hb.int
    refine ⟨_, rfl, k.val _ _ ?_ q⟩
    rw [show ((i.natAbs : Nat) : Int) = if i < 0 then -i else i by split <;> omega]
    exact .int _
  · exact q.elim
def uMin (K : Fg) : List V → Hp → VK → Prop := fun xs H Q => (∃ i j, xs = [.int i, .int j] ∧ Q (.int (if j < i then j else i)) H) ∨ (rMin K xs H Q ∨ rMinT K xs H Q)
theorem cr_uMin (hc : X.calm = true) : CallR X (.builtin "min") (uMin X.K) := (call_min2 hc).or ((cr_min hc).or (cr_minT hc))
theorem sim_min : SimRC K (uMin K) minD := fun O H vs ds Qd Q h q k => by
  unfold minD at q
  split at q
  · rename_i i j
    obtain ⟨v, w, rfl, h1, h2⟩ := h.two
    obtain rfl := h1.int
    obtain rfl := h2.int
    refine .inl ⟨_, _, rfl, k.val _ _ ?_ q⟩
    rw [show min i j = if j < i then j else i by split <;> omega]
    exact .int _
  · obtain ⟨v, rfl, hb⟩ := h.one
    obtain ⟨p, vs, rfl, e, r⟩ := hb.tup
    obtain ⟨ns, e1, h0, q⟩ := q
    obtain rfl := ints?_eq e1
    obtain rfl := r.ints
    exact .inr (.inr ⟨p, ns, rfl, SqT.of e, h0, fun m h1 h2 => k.val _ _ (.int _) (q m h1 h2)⟩)
  · obtain ⟨v, rfl, hb⟩ := h.one
    obtain ⟨p, vs, rfl, e, r⟩ := hb.lst
    obtain ⟨ns, e1, h0, q⟩ := q
    obtain rfl := ints?_eq e1
    obtain rfl := r.ints
    exact .inr (.inl ⟨p, ns, rfl, SqL.of e, h0, fun m h1 h2 => k.val _ _ (.int _) (q m h1 h2)⟩)
  · exact q.elim
def uMax (K : Fg) : List V → Hp → VK → Prop := fun xs H Q => (∃ i j, xs = [.int i, .int j] ∧ Q (.int (if j > i then j else i)) H) ∨ (rMax K xs H Q ∨ rMaxT K xs H Q)
theorem cr_uMax (hc : X.calm = true) : CallR X (.builtin "max") (uMax X.K) := (call_max2 hc).or ((cr_max hc).or (cr_maxT hc))
theorem sim_max : SimRC K (uMax K) maxD := fun O H vs ds Qd Q h q k => by
  unfold maxD at q
  split at q
  · rename_i i j
    obtain ⟨v, w, rfl, h1, h2⟩ := h.two
    obtain rfl := h1.int
    obtain rfl := h2.int
    refine .inl ⟨_, _, rfl, k.val _ _ ?_ q⟩
    rw [show max i j = if j > i then j else i by split <;> omega]
    exact .int _
  · obtain ⟨v, rfl, hb⟩ := h.one
    obtain ⟨p, vs, rfl, e, r⟩ := hb.tup
    obtain ⟨ns, e1, h0, q⟩ := q
    obtain rfl := ints?_eq e1
    obtain rfl := r.ints
    exact .inr (.inr ⟨p, ns, rfl, SqT.of e, h0, fun m h1 h2 => k.val _ _ (.int _) (q m h1 h2)⟩)
  · obtain ⟨v, rfl, hb⟩ := h.one
    obtain ⟨p, vs, rfl, e, r⟩ := hb.lst
    obtain ⟨ns, e1, h0, q⟩ := q
    obtain rfl := ints?_eq e1
    obtain rfl := r.ints
    exact .inr (.inl ⟨p, ns, rfl, SqL.of e, h0, fun m h1 h2 => k.val _ _ (.int _) (q m h1 h2)⟩)
  · exact q.elim
theorem sim_sorted : SimRC K (rSortedI K) sortedD := fun O H vs ds Qd Q h q k => by
  unfold sortedD at q
  split at q
  · obtain ⟨v, rfl, hb⟩ := h.one
    obtain ⟨p, vs, rfl, e, r⟩ := hb.lst
    obtain ⟨ns, e1, q⟩ := q
    obtain rfl := ints?_eq e1
    obtain rfl := r.ints
    exact ⟨p, ns, rfl, SqL.of e, fun ms p hp hs hn => k.new p _ _ hn (.lst (Reps.of_ints ms)) (q ms hp hs)⟩
  · exact q.elim
def uTuple (K : Fg) : List V → Hp → VK → Prop := fun xs H Q => ∃ p ys, xs = [.ref p] ∧ ((SqL K H p ys ∧ ∀ l, H l = none → Q (.ref l) (upd H l (.tup ys))) ∨ (SqT K H p ys ∧ Q (.ref p) H))
theorem sim_tuple : SimRC K (uTuple K) tupleD := fun O H vs ds Qd Q h q k => by
  unfold tupleD at q
  split at q
  · obtain ⟨v, rfl, hb⟩ := h.one
    obtain ⟨p, vs, rfl, e, r⟩ := hb.lst
    exact ⟨p, vs, rfl, .inl ⟨SqL.of e, fun l hl => k.newT l _ _ hl r q⟩⟩
  · obtain ⟨v, rfl, hb⟩ := h.one
    rcases hb with h1 | ⟨l, o, _, _, h1⟩
    · cases h1 with
      | tup h r => exact ⟨_, _, rfl, .inr ⟨SqT.of (hide_same _ _ (by assumption)), k.val _ _ (.tup (by assumption) r) q⟩⟩
    · cases h1
  · exact q.elim
def uDivmod : List V → Hp → VK → Prop := fun xs H Q => ∃ i j, xs = [.int i, .int j] ∧ CDiv i j ∧ ∀ p, H p = none → Q (.ref p) (upd H p (.tup [.int (i / j), .int (i % j)]))
theorem sim_divmod : SimRC K uDivmod divmodD := fun O H vs ds Qd Q h q k => by
  unfold divmodD at q
  split at q
  · obtain ⟨v, w, rfl, h1, h2⟩ := h.two
    obtain rfl := h1.int
    obtain rfl := h2.int
    exact ⟨_, _, rfl, q.1, fun p hp => k.newT p _ _ hp (.cons (.int _) (.cons (.int _) .nil)) q.2⟩
  · exact q.elim
end
/-! ### slices -/
def DOo (X : Cx) (C : Ctx) (e : Option Expr) (t : TO) (m : Env → (Option Int → Env → Prop) → Prop) : Prop := PO X e t ∧ ∀ (Γ : Env) (O : List Addr) (σ : L2.St) (H : Hp) (Qd : Option Int → Env → Prop) (Q : Option Int → Hp → Prop), RelO C Γ O σ H → m Γ Qd →
  (∀ b Γ' H', RelO C Γ' O σ H' → Same (hide O H) (hide O H') → Qd b Γ' → Q b H') → t σ H Q
def mNoP : Env → (Option Int → Env → Prop) → Prop := fun Γ Q => Q none Γ
def mPart (ma : DTE) : Env → (Option Int → Env → Prop) → Prop := fun Γ Q => ma Γ fun r Γ1 => ∃ i, r = .val (.int i) ∧ Q (some i) Γ1
def cutD (xs : List D) (lo hi : Option Int) : List D := (xs.drop (HT.sIx xs.length 0 lo)).take (HT.sIx xs.length xs.length hi - HT.sIx xs.length 0 lo)
theorem Reps.cut {K : Fg} {H : Hp} {vs : List V} {ds : List D} (r : Reps K H vs ds) (lo hi : Option Int) : Reps K H (cutV vs lo hi) (cutD ds lo hi) := by
  unfold cutV cutD
  rw [r.length]
  exact (r.drop _).take _
def slD : D → Option Int → Option Int → (Res → Prop) → Prop
  | .lst ds, lo, hi, Q => Q (.fr (.lst (cutD ds lo hi)))
  | .scr ds, lo, hi, Q => Q (.fr (.lst (cutD ds lo hi)))
  | .str z, lo, hi, Q => z.length ≤ 100000 ∧ Q (.val (.str (cutS z lo hi)))
  | _, _, _, _ => False
def mSl (f : D → Option Int → Option Int → (Res → Prop) → Prop) (ma : DTE) (ml mh : Env → (Option Int → Env → Prop) → Prop) : DTE := fun Γ Q => ma Γ fun r Γ1 => ml Γ1 fun lo Γ2 => mh Γ2 fun hi Γ3 => ∃ d, rd Γ3 r = some d ∧ f d lo hi fun r => Q r Γ3
section
variable {X : Cx} {C : Ctx} {ta : TE} {ma : DTE} {a e : Expr} {pos p2 : Pos}
theorem do_none : DOo X C none tNoPart mNoP := ⟨po_none, fun Γ O σ H Qd Q R h k => k none Γ H R (L2.Same.refl _) h⟩
theorem do_some (h : DE X C e ta ma) : DOo X C (some e) (tPart ta) (mPart ma) := ⟨po_some h.pe, fun Γ O σ H Qd Q R hm k => h.sim Γ O σ H _ _ R hm fun r Γ1 v H1 R1 e1 q1 => by
  obtain ⟨i, rfl, q⟩ := q1
  exact ⟨i, (show B2 C.K O H1 v (.int i) from .inl R1.2).int, k (some i) Γ1 H1 R1.rel e1.1 q⟩⟩
def uSl (K : Fg) : V → Option Int → Option Int → Hp → VK → Prop := fun x lo hi H Q => rSlL K x lo hi H Q ∨ rSlS x lo hi H Q
theorem sl_u : SlR X (uSl X.K) := sl_list.or sl_str
theorem de_sl {lo hi : Option Expr} {tl th : TO} {ml mh : Env → (Option Int → Env → Prop) → Prop} (he : DE X C a ta ma) (hl : DOo X C lo tl ml) (hh : DOo X C hi th mh) {K0 : Fg} (hK0 : X.K = K0 := by rfl) (hK : K0 = C.K := by rfl) :
    DE X C (.Subscript a (.Slice lo hi none p2) pos) (tSl (uSl K0) ta tl th) (mSl slD ma ml mh) := by
  subst hK0
  refine ⟨pe_slice sl_u he.pe hl.1 hh.1, fun Γ O σ H Qd Q R h k => ?_⟩
  refine he.sim Γ O σ H _ _ R h fun r Γ1 v H1 R1 e1 q1 => ?_
  refine hl.2 Γ1 O σ H1 _ _ R1.rel q1 fun i1 Γ2 H2 R2 e2 q2 => ?_
  refine hh.2 Γ2 O σ H2 _ _ R2 q2 fun i2 Γ3 H3 R3 e3 q3 => ?_
  obtain ⟨d, hd, q⟩ := q3
  have b := (R1.pend.mono (L2.Same.trans e2 e3)).b2 R3 hd
  have o := outs_of R3 (L2.Same.trans e1.1 (L2.Same.trans e2 e3)) k
  unfold slD at q
  split at q
  · obtain ⟨p, vs, rfl, e, r⟩ := b.lst
    exact .inl ⟨p, vs, rfl, SqL.of e, fun p hp => o.new p _ _ hp (.lst (r.cut _ _)) q⟩
  · obtain ⟨p, vs, rfl, e, r⟩ := b.scr
    rw [hK]
    exact .inl ⟨p, vs, rfl, e, fun p hp => o.new p _ _ hp (.lst (r.cut _ _)) q⟩
  · obtain rfl := b.str
    exact .inr ⟨_, rfl, sz5 q.1, o.val _ _ (.str _) q.2⟩
  · exact q.elim
/-- xs[::-1] -/
def mRevL (ma : DTE) : DTE := fun Γ Q => ma Γ fun r Γ1 => ∃ ds, rd Γ1 r = some (.lst ds) ∧ Q (.fr (.lst ds.reverse)) Γ1
/-! ### built-ins by name -/
variable {x : Str} {p : Pos} {b : Expr} {tb : TE} {mb : DTE} {tr : TA} {mr : DTA} {es : List Expr}
theorem de_abs (hg : Gl X "abs") (hm : X.mg "abs" = none) (ha : DA X C (e :: es) tr mr)
    (he : starEach (e :: es) X.env = (false, eval e X.env) :: starEach es X.env := by rfl) (hpl : (backTo pos (starEach es X.env)).any (·.1) = false := by rfl) :
    DE X C (.Call (.Name "abs" p) (e :: es) [] pos) (tCB uAbs tr) (mCB absD mr) := de_cb call_abs sim_abs hg hm (by decide +kernel) ha (he := he) (hpl := hpl)
theorem de_len (hg : Gl X "len") (hm : X.mg "len" = none) (ha : DA X C (e :: es) tr mr) {K0 : Fg} (hK0 : X.K = K0 := by rfl) (hK : K0 = C.K := by rfl)
    (he : starEach (e :: es) X.env = (false, eval e X.env) :: starEach es X.env := by rfl) (hpl : (backTo pos (starEach es X.env)).any (·.1) = false := by rfl) :
    DE X C (.Call (.Name "len" p) (e :: es) [] pos) (tCB (uLen K0) tr) (mCB lenD mr) := by
  subst hK0
  exact (de_cb cr_uLen (by rw [hK]; exact sim_len) hg hm (by decide +kernel) ha (he := he) (hpl := hpl))
theorem de_intc (hg : Gl X "int") (hm : X.mg "int" = none) (ha : DA X C (e :: es) tr mr)
    (he : starEach (e :: es) X.env = (false, eval e X.env) :: starEach es X.env := by rfl) (hpl : (backTo pos (starEach es X.env)).any (·.1) = false := by rfl) :
    DE X C (.Call (.Name "int" p) (e :: es) [] pos) (tCB uInt tr) (mCB intD mr) := de_ct call_int1 sim_int hg hm (by decide +kernel) ha (he := he) (hpl := hpl)
theorem de_min (hc : X.calm = true) (hg : Gl X "min") (hm : X.mg "min" = none) (ha : DA X C (e :: es) tr mr) {K0 : Fg} (hK0 : X.K = K0 := by rfl) (hK : K0 = C.K := by rfl)
    (he : starEach (e :: es) X.env = (false, eval e X.env) :: starEach es X.env := by rfl) (hpl : (backTo pos (starEach es X.env)).any (·.1) = false := by rfl) :
    DE X C (.Call (.Name "min" p) (e :: es) [] pos) (tCB (uMin K0) tr) (mCB minD mr) := by
  subst hK0
  exact (de_cb (cr_uMin hc) (by rw [hK]; exact sim_min) hg hm (by decide +kernel) ha (he := he) (hpl := hpl))
theorem de_max (hc : X.calm = true) (hg : Gl X "max") (hm : X.mg "max" = none) (ha : DA X C (e :: es) tr mr) {K0 : Fg} (hK0 : X.K = K0 := by rfl) (hK : K0 = C.K := by rfl)
    (he : starEach (e :: es) X.env = (false, eval e X.env) :: starEach es X.env := by rfl) (hpl : (backTo pos (starEach es X.env)).any (·.1) = false := by rfl) :
    DE X C (.Call (.Name "max" p) (e :: es) [] pos) (tCB (uMax K0) tr) (mCB maxD mr) := by
  subst hK0
  exact (de_cb (cr_uMax hc) (by rw [hK]; exact sim_max) hg hm (by decide +kernel) ha (he := he) (hpl := hpl))
theorem de_sorted (hg : Gl X "sorted") (hm : X.mg "sorted" = none) (ha : DA X C (e :: es) tr mr) {K0 : Fg} (hK0 : X.K = K0 := by rfl) (hK : K0 = C.K := by rfl)
    (he : starEach (e :: es) X.env = (false, eval e X.env) :: starEach es X.env := by rfl) (hpl : (backTo pos (starEach es X.env)).any (·.1) = false := by rfl) :
    DE X C (.Call (.Name "sorted" p) (e :: es) [] pos) (tCB (rSortedI K0) tr) (mCB sortedD mr) := by
  subst hK0
  exact (de_cb cr_sortedI (by rw [hK]; exact sim_sorted) hg hm (by decide +kernel) ha (he := he) (hpl := hpl))
theorem de_tuple (hg : Gl X "tuple") (hm : X.mg "tuple" = none) (ha : DA X C (e :: es) tr mr) {K0 : Fg} (hK0 : X.K = K0 := by rfl) (hK : K0 = C.K := by rfl)
    (he : starEach (e :: es) X.env = (false, eval e X.env) :: starEach es X.env := by rfl) (hpl : (backTo pos (starEach es X.env)).any (·.1) = false := by rfl) :
    DE X C (.Call (.Name "tuple" p) (e :: es) [] pos) (tCB (uTuple K0) tr) (mCB tupleD mr) := by
  subst hK0
  exact (de_ct call_tuple_of (by rw [hK]; exact sim_tuple) hg hm (by decide +kernel) ha (he := he) (hpl := hpl))
theorem de_divmod (hg : Gl X "divmod") (hm : X.mg "divmod" = none) (ha : DA X C (e :: es) tr mr)
    (he : starEach (e :: es) X.env = (false, eval e X.env) :: starEach es X.env := by rfl) (hpl : (backTo pos (starEach es X.env)).any (·.1) = false := by rfl) :
    DE X C (.Call (.Name "divmod" p) (e :: es) [] pos) (tCB uDivmod tr) (mCB divmodD mr) := de_cb call_divmod sim_divmod hg hm (by decide +kernel) ha (he := he) (hpl := hpl)
/-- list(range(b)), list(range(a, b)) -/
def rgD (a b : Int) : List D := (List.range (b - a).toNat).map fun i => D.int (a + (i : Nat))
theorem Reps.rg {K : Fg} {H : Hp} (a b : Int) : Reps K H (rgV a b) (rgD a b) := by
  have h : ∀ l : List Nat, Reps K H (l.map fun i => V.int (a + (i : Nat))) (l.map fun i => D.int (a + (i : Nat))) := fun l => by
    induction l with
    | nil => exact .nil
    | cons x l ih => exact .cons (.int _) ih
  exact h _
def mRg1 (ma : DTE) : Env → (Int → Int → Env → Prop) → Prop := fun Γ Q => ma Γ fun r Γ1 => ∃ n, r = .val (.int n) ∧ Q 0 n Γ1
def mRg2 (ma mb : DTE) : Env → (Int → Int → Env → Prop) → Prop := fun Γ Q => ma Γ fun r Γ1 => mb Γ1 fun r2 Γ2 => ∃ i j, r = .val (.int i) ∧ r2 = .val (.int j) ∧ Q i j Γ2
def mLRg (mg : Env → (Int → Int → Env → Prop) → Prop) : DTE := fun Γ Q => mg Γ fun a b Γ1 => RgOk a b ∧ Q (.fr (.lst (rgD a b))) Γ1
def mTRg (mg : Env → (Int → Int → Env → Prop) → Prop) : DTE := fun Γ Q => mg Γ fun a b Γ1 => RgOk a b ∧ Q (.val (.tup (rgD a b))) Γ1
def DRg (X : Cx) (C : Ctx) (e : Expr) (t : L2.St → Hp → (Int → Int → Hp → Prop) → Prop) (m : Env → (Int → Int → Env → Prop) → Prop) : Prop := PRg X e t ∧ ∀ (Γ : Env) (O : List Addr) (σ : L2.St) (H : Hp) (Qd : Int → Int → Env → Prop) (Q : Int → Int → Hp → Prop), RelO C Γ O σ H → m Γ Qd →
  (∀ i j Γ' H', RelO C Γ' O σ H' → Same (hide O H) (hide O H') → Qd i j Γ' → Q i j H') → t σ H Q
theorem dr_1 (hg : Gl X "range") (hm : X.mg "range" = none) (ha : DE X C a ta ma) (na : starEach [a] X.env = (false, eval a X.env) :: starEach [] X.env := by rfl) : DRg X C (.Call (.Name "range" p) [a] [] pos) (tRg1 ta) (mRg1 ma) :=
  ⟨prg_1 hg hm ha.pe na, fun Γ O σ H Qd Q R h k => ha.sim Γ O σ H _ _ R h fun r Γ1 v H1 R1 e1 q1 => by
    obtain ⟨n, rfl, q⟩ := q1
    exact ⟨n, (show B2 C.K O H1 v (.int n) from .inl R1.2).int, k 0 n Γ1 H1 R1.rel e1.1 q⟩⟩
theorem de_listRg {tg : L2.St → Hp → (Int → Int → Hp → Prop) → Prop} {mg : Env → (Int → Int → Env → Prop) → Prop} (hc : X.calm = true) (hg : Gl X "list") (hm : X.mg "list" = none) (he : DRg X C e tg mg) (na : starEach [e] X.env = (false, eval e X.env) :: starEach [] X.env := by rfl) :
    DE X C (.Call (.Name "list" p) [e] [] pos) (tLstRg tg) (mLRg mg) := ⟨pe_listRg hc hg hm he.1 na, fun Γ O σ H Qd Q R h k => he.2 Γ O σ H _ _ R h fun i j Γ1 H1 R1 e1 q1 => ⟨q1.1, fun p hp => (outs_of R1 e1 k).new p _ _ hp (.lst (Reps.rg i j)) q1.2⟩⟩
end
end DL
/-! the data layer, part 5: what is walked, targets, comprehensions, statements -/
namespace DL
open PySem L2
/-! ### what a loop walks -/
/-- n turns that give the items; g: what must hold of the heap meanwhile -/
structure ItD (K : Fg) (J : It) (n : Nat) (g : List Addr → Hp → Prop) (items : List D) : Prop where
  len : items.length = n
  go : ∀ i O H, g O H → i < n → J.go i H
  stop : ∀ O H, g O H → J.stop n H
  yld : ∀ i O H x H', g O H → i < n → J.yld i H x H' → ∃ d, items[i]? = some d ∧ ((H' = H ∧ Rep K (hide O H) x d) ∨ ∃ p vs ds, x = .ref p ∧ H p = none ∧ H' = upd H p (.tup vs) ∧ Reps K (hide O H) vs ds ∧ d = .tup ds)
/-- where the items come from: nowhere; a shared datum; a place -/
inductive Src where
  | no
  | val (d : D)
  | pl (i : Nat) (d : D)
  | v2 (a b : D)
def SrcOk (C : Ctx) (Γ : Env) (O : List Addr) (σ : St) (H : Hp) (g : List Addr → Hp → Prop) : Src → Prop
  | .no => ∀ O' H', g O' H'
  | .val d => ∃ v, Rep C.K (hide O H) v d ∧ ∀ O' H', Rep C.K (hide O' H') v d → g O' H'
  | .pl i d => ∃ v, σ[i]? = some (some v) ∧ rd Γ (.pl i) = some d ∧ ∀ O' H', B2 C.K O' H' v d → g O' H'
  | .v2 a b => ∃ v w, Rep C.K (hide O H) v a ∧ Rep C.K (hide O H) w b ∧ ∀ O' H', Rep C.K (hide O' H') v a → Rep C.K (hide O' H') w b → g O' H'
abbrev DTI := Env → (Src → List D → Env → Prop) → Prop
def SimI (C : Ctx) (w : TI) (m : DTI) : Prop := ∀ (Γ : Env) (O : List Addr) (σ : St) (H : Hp) (Qd : Src → List D → Env → Prop) (R : It → Hp → Prop), RelO C Γ O σ H → m Γ Qd →
  (∀ src items Γ' J H' n g, RelO C Γ' O σ H' → Same (hide O H) (hide O H') → ItD C.K J n g items → SrcOk C Γ' O σ H' g src → Qd src items Γ' → R J H') → w σ H R
structure DI (X : Cx) (C : Ctx) (tg e : Expr) (w : TI) (m : DTI) : Prop where
  pi : PI X tg e w
  sim : SimI C w m
def srcOf (d : D) : Res → Src
  | .pl i => .pl i d
  | _ => .val d
def itemsOf : D → Option (List D)
  | .lst ds => some ds
  | .tup ds => some ds
  | _ => none
/-- for .. in e, e a list or a tuple -/
def mSeq (ma : DTE) : DTI := fun Γ Q => ma Γ fun r Γ1 => ∃ d ds, rd Γ1 r = some d ∧ itemsOf d = some ds ∧ Q (srcOf d r) ds Γ1
def iSeq (K : Fg) (tl : TE) : TI := fun σ H R => tl σ H fun x H1 => ∃ a, x = .ref a ∧ (((∃ xs, SqL K H1 a xs) ∧ R (Itl K a) H1) ∨ ((∃ xs, SqT K H1 a xs) ∧ R (Itt K a) H1))
section
variable {X : Cx} {C : Ctx} {tg l : Expr} {tl : TE} {ml : DTE} {pos p : Pos}
theorem pi_seq (hl : PE X l tl) : PI X tg l (iSeq X.K tl) := by
  refine ⟨fun pins s σ H R I h => ?_⟩
  refine thn (hl.run pins s σ H _ I h) fun v s1 ⟨x, H1, I1, r1, q1⟩ => ?_
  obtain ⟨a, e, q⟩ := q1
  subst e
  cases r1
  have fin : ∀ b ∈ [s1.heap.objs.size], FpOk X pins H1 b := fun b hb => by
    have e : b = s1.heap.objs.size := by simpa using hb
    subst e
    exact I1.fpOk (Nat.le_refl _) (I1.hok.fresh (Nat.le_refl _))
  rcases q with ⟨⟨xs, hq⟩, q⟩ | ⟨⟨xs, hq⟩, q⟩
  · obtain ⟨its, rv, pl, hz⟩ := I1.list hq
    exact wpAny_pyIter_list pl.isList ⟨_, [s1.heap.objs.size], _, _, H1, rfl, I1.kept (t' := s1.toks) fun b o e => Heap.get?_push_of_some _ e, turn_list a _, ⟨_, Heap.get?_push_size _ rfl, rfl, rfl⟩, fin, q⟩
  · obtain ⟨its, rv, pl, hz⟩ := I1.tuple hq
    exact wpAny_pyIter_tuple (show s1.heap.IsTuple a its.toArray from pl) ⟨_, [s1.heap.objs.size], _, _, H1, rfl, I1.kept (t' := s1.toks) fun b o e => Heap.get?_push_of_some _ e, turn_tuple a _, ⟨_, Heap.get?_push_size _ rfl, rfl, rfl⟩, fin, q⟩
theorem itd_list {K : Fg} {a : Addr} {ds : List D} : ItD K (Itl K a) ds.length (fun O H => B2 K O H (.ref a) (.lst ds)) ds where
  len := rfl
  go := fun i O H h hi => by
    obtain ⟨a', vs, e, h1, r⟩ := h.lst
    cases e
    have : i < vs.length := by rw [r.length]; exact hi
    exact ⟨vs, vs[i], SqL.of h1, by simp [this]⟩
  stop := fun O H h => by
    obtain ⟨a', vs, e, h1, r⟩ := h.lst
    cases e
    exact ⟨vs, SqL.of h1, by rw [r.length]; exact Nat.le_refl _⟩
  yld := fun i O H x H' h hi y => by
    obtain ⟨a', vs, e, h1, r⟩ := h.lst
    cases e
    obtain ⟨e, y⟩ := y
    obtain ⟨d, hd, hr⟩ := r.getV (y vs (SqL.of h1))
    exact ⟨d, hd, .inl ⟨e, hr⟩⟩
theorem itd_tup {K : Fg} {a : Addr} {ds : List D} : ItD K (Itt K a) ds.length (fun O H => B2 K O H (.ref a) (.tup ds)) ds where
  len := rfl
  go := fun i O H h hi => by
    obtain ⟨a', vs, e, h1, r⟩ := h.tup
    cases e
    have : i < vs.length := by rw [r.length]; exact hi
    exact ⟨vs, vs[i], SqT.of h1, by simp [this]⟩
  stop := fun O H h => by
    obtain ⟨a', vs, e, h1, r⟩ := h.tup
    cases e
    exact ⟨vs, SqT.of h1, by rw [r.length]; exact Nat.le_refl _⟩
  yld := fun i O H x H' h hi y => by
    obtain ⟨a', vs, e, h1, r⟩ := h.tup
    cases e
    obtain ⟨e, y⟩ := y
    obtain ⟨d, hd, hr⟩ := r.getV (y vs (SqT.of h1))
    exact ⟨d, hd, .inl ⟨e, hr⟩⟩
theorem src_of {C : Ctx} {Γ : Env} {O : List Addr} {σ : St} {H : Hp} {v : V} {d : D} {r : Res} {g : List Addr → Hp → Prop} (R : ROk C Γ O σ H v r) (hd : rd Γ r = some d) (hg : ∀ O' H', B2 C.K O' H' v d → g O' H') : SrcOk C Γ O σ H g (srcOf d r) := by
  cases r with
  | val d' => cases hd; exact ⟨v, R.2, fun O' H' h => hg O' H' (.inl h)⟩
  | fr d' => cases hd; exact ⟨v, R.2.rep, fun O' H' h => hg O' H' (.inl h)⟩
  | np a ds => cases hd; exact ⟨v, R.2.rep, fun O' H' h => hg O' H' (.inl h)⟩
  | pl i => exact ⟨v, R.2, hd, hg⟩
theorem di_seq (h : DE X C l tl ml) {K0 : Fg} (hK0 : X.K = K0 := by rfl) (hK : K0 = C.K := by rfl) : DI X C tg l (iSeq K0 tl) (mSeq ml) := by
  subst hK0
  refine ⟨pi_seq h.pe, fun Γ O σ H Qd R hR hm k => ?_⟩
  refine h.sim Γ O σ H _ _ hR hm fun r Γ1 v H1 R1 e1 q1 => ?_
  obtain ⟨d, ds, hd, hi, q⟩ := q1
  have b := R1.pend.b2 R1.rel hd
  unfold itemsOf at hi
  split at hi
  · cases hi
    obtain ⟨a, vs, rfl, e, _⟩ := b.lst
    exact ⟨a, rfl, .inl ⟨⟨vs, SqL.of e⟩, by rw [hK]; exact k _ _ Γ1 _ H1 _ _ R1.rel e1.1 itd_list (src_of R1 hd fun _ _ h => h) q⟩⟩
  · cases hi
    obtain ⟨a, vs, rfl, e, _⟩ := b.tup
    exact ⟨a, rfl, .inr ⟨⟨vs, SqT.of e⟩, by rw [hK]; exact k _ _ Γ1 _ H1 _ _ R1.rel e1.1 itd_tup (src_of R1 hd fun _ _ h => h) q⟩⟩
  · cases hi
/-- range -/
def rngD (lo : Int) (n : Nat) : List D := (List.range n).map fun i => D.int (lo + (i : Nat))
theorem rngD_get {lo : Int} {n i : Nat} (h : i < n) : (rngD lo n)[i]? = some (.int (lo + i)) := by
  unfold rngD
  rw [List.getElem?_map, List.getElem?_range h]; rfl
theorem itd_rng {K : Fg} {lo : Int} {n : Nat} : ItD K (Itr lo n) n (fun _ _ => True) (rngD lo n) where
  len := by unfold rngD; rw [List.length_map, List.length_range]
  go := fun i O H _ hi => hi
  stop := fun O H _ => Nat.le_refl _
  yld := fun i O H x H' _ hi y => by
    obtain ⟨e, rfl⟩ := y
    exact ⟨_, rngD_get hi, .inl ⟨e, .int _⟩⟩
def mRng1 (ma : DTA) : DTI := fun Γ Q => ma Γ fun rs Γ1 => ∃ j : Int, rs = [.val (.int j)] ∧ (-(2 ^ 62) ≤ j ∧ j < 2 ^ 62) ∧ Q .no (rngD 0 j.toNat) Γ1
def mRng2 (ma : DTA) : DTI := fun Γ Q => ma Γ fun rs Γ1 => ∃ i j : Int, rs = [.val (.int i), .val (.int j)] ∧ (-(2 ^ 62) ≤ i ∧ i < 2 ^ 62 ∧ -(2 ^ 62) ≤ j ∧ j < 2 ^ 62) ∧ Q .no (rngD i (j - i).toNat) Γ1
theorem pend_int {K : Fg} {O : List Addr} {σ : St} {H : Hp} {v : V} {i : Int} (h : Pend K O σ H v (.val (.int i))) : v = .int i := (show B2 K O H v (.int i) from .inl h).int
theorem di_rng1 {a : Expr} {ta : TA} {ma : DTA} (hg : Gl X "range") (hm : X.mg "range" = none) (ha : DA X C [a] ta ma) (hs : starEach [a] X.env = [(false, eval a X.env)] := by rfl) : DI X C tg (.Call (.Name "range" p) [a] [] pos) (iRng1 ta) (mRng1 ma) :=
  ⟨pi_range1 hg hm ha.pa hs, fun Γ O σ H Qd R hR hm k => ha.sim Γ O σ H _ _ hR hm fun rs Γ1 vs H1 R1 p1 e1 q1 => by
    obtain ⟨j, rfl, ⟨h1, h2⟩, q⟩ := q1
    cases p1 with
    | cons a t =>
      cases t
      exact ⟨j, by rw [pend_int a], h1, h2, k .no _ Γ1 _ H1 _ _ R1 e1 itd_rng (fun _ _ => trivial) q⟩⟩
theorem di_rng2 {a b : Expr} {ta : TA} {ma : DTA} (hg : Gl X "range") (hm : X.mg "range" = none) (ha : DA X C [a, b] ta ma) (hs : starEach [a, b] X.env = [(false, eval a X.env), (false, eval b X.env)] := by rfl) (hs2 : starEach [b] X.env = [(false, eval b X.env)] := by rfl) : DI X C tg (.Call (.Name "range" p) [a, b] [] pos) (iRng2 ta) (mRng2 ma) :=
  ⟨pi_range2 hg hm ha.pa hs hs2, fun Γ O σ H Qd R hR hm k => ha.sim Γ O σ H _ _ hR hm fun rs Γ1 vs H1 R1 p1 e1 q1 => by
    obtain ⟨i, j, rfl, hb, q⟩ := q1
    cases p1 with
    | cons a t =>
      cases t with
      | cons b t =>
        cases t
        exact ⟨i, j, by rw [pend_int a, pend_int b], hb, k .no _ Γ1 _ H1 _ _ R1 e1 itd_rng (fun _ _ => trivial) q⟩⟩
end
/-! ### targets -/
abbrev DTG := D → Env → (Env → Prop) → Prop
abbrev DTGs := List D → Env → (Env → Prop) → Prop
def SimG (C : Ctx) (g : TG) (m : DTG) : Prop := ∀ (Γ : Env) (O : List Addr) (σ : St) (H : Hp) (v : V) (d : D) (Qd : Env → Prop) (Q : St → Hp → Prop), RelO C Γ O σ H → Rep C.K (hide O H) v d → m d Γ Qd →
  (∀ Γ' σ' H', RelO C Γ' O σ' H' → Same (hide O H) (hide O H') → Qd Γ' → Q σ' H') → g v σ H Q
def SimGs (C : Ctx) (g : TGs) (m : DTGs) : Prop := ∀ (Γ : Env) (O : List Addr) (σ : St) (H : Hp) (vs : List V) (ds : List D) (Qd : Env → Prop) (Q : St → Hp → Prop), RelO C Γ O σ H → Reps C.K (hide O H) vs ds → m ds Γ Qd →
  (∀ Γ' σ' H', RelO C Γ' O σ' H' → Same (hide O H) (hide O H') → Qd Γ' → Q σ' H') → g vs σ H Q
structure DG (X : Cx) (C : Ctx) (e : Expr) (g : TG) (m : DTG) : Prop where
  pg : PG X e g
  sim : SimG C g m
structure DGs (X : Cx) (C : Ctx) (es : List Expr) (g : TGs) (m : DTGs) : Prop where
  pgs : PGs X es g
  sim : SimGs C g m
def freeB (Γ : Env) (i : Nat) : Bool := match Γ[i]? with
  | some (.io _) => false
  | some (.bo _) => false
  | _ => true
theorem freeB_of {Γ : Env} {i : Nat} (h : freeB Γ i = true) : Free Γ i := by
  unfold freeB at h
  refine ⟨fun d e => ?_, fun d e => ?_⟩ <;> rw [e] at h <;> cases h
def mgName (i : Nat) : DTG := fun d Γ Q => freeB Γ i = true ∧ Q (Γ.set i (.sh d))
def mgNil : DTGs := fun ds Γ Q => ds = [] ∧ Q Γ
def mgCons (m : DTG) (ms : DTGs) : DTGs := fun ds Γ Q => ∃ d r, ds = d :: r ∧ m d Γ fun Γ1 => ms r Γ1 Q
def mgTup (n : Nat) (ms : DTGs) : DTG := fun d Γ Q => ∃ ds, d = .tup ds ∧ ds.length = n ∧ ms ds Γ Q
/-- x[i] = d, x a place -/
def setC (Γ : Env) (i : Nat) (d : D) : Option Env := match Γ[i]? with
  | some (.ow _) => some (Γ.set i (.ow d))
  | some (.io _) => some (Γ.set i (.io d))
  | _ => none
def stD : D → D → D → (D → Prop) → Prop
  | .lst ds, .int k, x, Q => ∃ j, ixN ds.length k = some j ∧ Q (.lst (ds.set j x))
  | _, _, _, _ => False
def mgSub (mo mi : DTE) (f : D → D → D → (D → Prop) → Prop) : DTG := fun d Γ Q => mo Γ fun ro Γ1 => mi Γ1 fun ri Γ2 => ∃ i c k, ro = .pl i ∧ cont Γ2[i]? = some c ∧ rd Γ2 ri = some k ∧ f c k d fun c' => ∃ Γ3, setC Γ2 i c' = some Γ3 ∧ Q Γ3
section
variable {X : Cx} {C : Ctx} {pos : Pos} {g : TG} {m : DTG}
theorem sim_gName (i : Nat) : SimG C (gName i) (mgName i) := fun Γ O σ H v d Qd Q R r h k => k _ _ H (R.setSh (freeB_of h.1) r) (L2.Same.refl _) h.2
theorem sim_gNil : SimGs C gNil mgNil := fun Γ O σ H vs ds Qd Q R r h k => by
  obtain ⟨rfl, h⟩ := h
  cases r
  exact ⟨rfl, k _ _ H R (L2.Same.refl _) h⟩
theorem sim_gCons {gs : TGs} {ms : DTGs} (h1 : SimG C g m) (h2 : SimGs C gs ms) : SimGs C (gCons g gs) (mgCons m ms) := fun Γ O σ H vs ds Qd Q R r h k => by
  obtain ⟨d, ds', rfl, h⟩ := h
  cases r with
  | cons r rr =>
    exact ⟨_, _, rfl, h1 Γ O σ H _ d _ _ R r h fun Γ1 σ1 H1 R1 e1 q1 => h2 Γ1 O σ1 H1 _ ds' _ _ R1 (rr.mono e1) q1 fun Γ2 σ2 H2 R2 e2 q2 => k Γ2 σ2 H2 R2 (L2.Same.trans e1 e2) q2⟩
theorem sim_gTup {n : Nat} {gs : TGs} {ms : DTGs} (h2 : SimGs C gs ms) : SimG C (gTup C.K n gs) (mgTup n ms) := fun Γ O σ H v d Qd Q R r h k => by
  obtain ⟨ds, rfl, hl, h⟩ := h
  obtain ⟨a, vs, rfl, e, rr⟩ := (show B2 C.K O H v (.tup ds) from .inl r).tup
  exact ⟨a, vs, rfl, SqT.of e, by rw [rr.length]; exact hl, h2 Γ O σ H vs ds _ _ R rr h k⟩
theorem set_relO {Γ Γ' : Env} {O : List Addr} {σ : St} {H : Hp} {i : Nat} {l : Addr} {d : D} {o : HO} (R : RelO C Γ O σ H) (hs : setC Γ i d = some Γ') (hl : σ[i]? = some (some (.ref l))) (ho : OwnOk C.K (hide O H) o d) : RelO C Γ' O σ (upd H l o) ∧ Same (hide O H) (hide O (upd H l o)) := by
  unfold setC at hs
  split at hs
  · rename_i d0 e
    cases hs
    have hO : l ∈ O := R.mutIn ⟨⟨d0, .inl e⟩, hl⟩
    refine ⟨R.mut e (.inl ⟨rfl, d, rfl⟩) hl fun d' h => ?_, by rw [hide_mut hO]; exact L2.Same.refl _⟩
    rcases h with h | h <;> cases h; exact ho
  · rename_i d0 e
    cases hs
    have hO : l ∈ O := R.mutIn ⟨⟨d0, .inr e⟩, hl⟩
    refine ⟨R.mut e (.inr ⟨rfl, d, rfl⟩) hl fun d' h => ?_, by rw [hide_mut hO]; exact L2.Same.refl _⟩
    rcases h with h | h <;> cases h; exact ho
  · cases hs
theorem place_at {Γ Γ' : Env} {O : List Addr} {σ : St} {H : Hp} {i : Nat} {c d : D} {v : V} (R : RelO C Γ O σ H) (hs : setC Γ i d = some Γ') (hv : σ[i]? = some (some v)) (hc : cont Γ[i]? = some c) : ∃ l o, v = .ref l ∧ H l = some o ∧ OwnOk C.K (hide O H) o c := by
  unfold setC at hs
  split at hs
  · rename_i d0 e
    rw [e] at hc
    cases hc
    obtain ⟨l, o, h1, h2, h3, h4, h5⟩ := R.sl i _ e
    rw [hv] at h1; cases h1
    exact ⟨l, o, rfl, h4, h5⟩
  · rename_i d0 e
    rw [e] at hc
    cases hc
    obtain ⟨l, o, h1, h2, h3, h4, h5⟩ := R.sl i _ e
    rw [hv] at h1; cases h1
    exact ⟨l, o, rfl, h4, h5⟩
  · cases hs
theorem sim_gSub {to ti : TE} {mo mi : DTE} (ho : SimE C to mo) (hi : SimE C ti mi) : SimG C (gSub to ti rSetL) (mgSub mo mi stD) := fun Γ O σ H v d Qd Q R r h k => by
  refine ho Γ O σ H _ _ R h fun ro Γ1 o H1 R1 e1 q1 => ?_
  refine hi Γ1 O σ H1 _ _ R1.rel q1 fun ri Γ2 iv H2 R2 e2 q2 => ?_
  obtain ⟨i, c, kd, rfl, hc, hk, q⟩ := q2
  have hi := R2.pend.b2 R2.rel hk
  unfold stD at q
  split at q
  · obtain ⟨j, hj, Γ3, hs, q⟩ := q
    obtain ⟨l, ob, rfl, hl, hb⟩ := place_at R2.rel hs R1.2 hc
    cases hb with
    | lst rr =>
      rename_i vs
      obtain ⟨R3, e3⟩ := set_relO (o := .lst (vs.set j v)) R2.rel hs R1.2 (.lst (rr.set (r.mono (L2.Same.trans e1.1 e2.1)) j))
      exact ⟨l, vs, _, j, rfl, hi.int, hl, by rw [rr.length]; exact hj, k Γ3 σ _ R3 (L2.Same.trans e1.1 (L2.Same.trans e2.1 e3)) q⟩
  · exact q.elim
theorem dg_name (i : Nat) {x : Str} (h : PG X (.Name x pos) (gName i)) : DG X C (.Name x pos) (gName i) (mgName i) := ⟨h, sim_gName i⟩
theorem dgs_nil : DGs X C [] gNil mgNil := ⟨pgs_nil, sim_gNil⟩
theorem dgs_cons {e : Expr} {es : List Expr} {gs : TGs} {ms : DTGs} (h1 : DG X C e g m) (h2 : DGs X C es gs ms) (hs : (assignEach (e :: es) X.env).map (·.2) = assign e X.env :: (assignEach es X.env).map (·.2) := by rfl) : DGs X C (e :: es) (gCons g gs) (mgCons m ms) := ⟨pgs_cons h1.pg h2.pgs hs, sim_gCons h1.sim h2.sim⟩
theorem dg_tup {es : List Expr} {k : Nat} {gs : TGs} {ms : DTGs} {n : Nat} (hc : X.calm = true) (h : DGs X C es gs ms) (hn : (assignEach es X.env).length = n := by rfl) (hst : (assignEach es X.env).findIdx? (·.1) = none := by rfl) {K0 : Fg} (hK0 : X.K = K0 := by rfl) (hK : K0 = C.K := by rfl) : DG X C (.Tuple es k pos) (gTup K0 n gs) (mgTup n ms) := by
  subst hK0
  exact (⟨pg_tup hc h.pgs hn hst, by rw [hK]; exact sim_gTup h.sim⟩)
theorem dg_sub {o i : Expr} {to ti : TE} {mo mi : DTE} (h : PE X o to → PE X i ti → PG X (.Subscript o i pos) (gSub to ti rSetL)) (ho : DE X C o to mo) (hi : DE X C i ti mi) : DG X C (.Subscript o i pos) (gSub to ti rSetL) (mgSub mo mi stD) := ⟨h ho.pe hi.pe, sim_gSub ho.sim hi.sim⟩
end
end DL
/-! the data layer, part 6: comprehensions -/
namespace DL
open PySem L2
section
variable {C : Ctx} {Γ : Env} {O : List Addr} {σ : St} {H : Hp} {p : Addr} {o o' : HO}
theorem RelO.congrU {U : List (Addr × HO)} (R : RelO C Γ O σ H) (h : ∀ q ∈ U, H q.1 = some q.2 ∧ q.1 ∈ O ∧ ∀ i, ¬ MutAt Γ σ i q.1) : RelO { C with U := U } Γ O σ H :=
  ⟨fun i s e => by have := R.sl i s e; cases s <;> exact this, R.ds, R.fr, R.mm, R.bb, R.oo, R.al, R.ol, R.o0, R.tt, h, R.len⟩
theorem RelO.subU {U U' : List (Addr × HO)} (R : RelO { C with U := U } Γ O σ H) (h : ∀ q, q ∈ U' → q ∈ U) : RelO { C with U := U' } Γ O σ H :=
  RelO.congrU (C := { C with U := U }) R fun q hq => R.uu q (h q hq)
theorem RelO.backU {U : List (Addr × HO)} (R : RelO { C with U := U } Γ O σ H) (h : ∀ q, q ∈ C.U → q ∈ U) : RelO C Γ O σ H := R.subU (U' := C.U) h
theorem RelO.congrT {T : List (V × D)} (R : RelO C Γ O σ H) (h : ∀ q ∈ T, Rep C.K (hide O H) q.1 q.2) : RelO { C with T := T } Γ O σ H :=
  ⟨fun i s e => by have := R.sl i s e; cases s <;> exact this, R.ds, R.fr, R.mm, R.bb, R.oo, R.al, R.ol, R.o0, h, R.uu, R.len⟩
theorem RelO.backT {T : List (V × D)} (R : RelO { C with T := T } Γ O σ H) (h : ∀ q, q ∈ C.T → q ∈ T) : RelO C Γ O σ H :=
  RelO.congrT (C := { C with T := T }) R fun q hq => R.tt q (h q hq)
/-- an owned object that no slot holds changes -/
theorem RelO.updFree (R : RelO C Γ O σ H) (hp : p ∈ O) (h0 : C.H0 p = none) (hm : ∀ i, ¬ MutAt Γ σ i p) (hu : ∀ q ∈ C.U, q.1 ≠ p) : RelO C Γ O σ (upd H p o) := by
  have eH : hide O (upd H p o) = hide O H := hide_mut hp
  refine ⟨fun i s e => ?_, R.ds, fun a u e n => ?_, R.mm, R.bb, R.oo, fun a ha => ?_, R.ol, R.o0, fun q hq => by rw [eH]; exact R.tt q hq, fun q hq => ⟨by rw [upd_ne (hu q hq)]; exact (R.uu q hq).1, (R.uu q hq).2⟩, R.len⟩
  · have q := R.sl i s e
    cases s with
    | no => trivial
    | sh d => obtain ⟨v, h1, h2⟩ := q; exact ⟨v, h1, by rw [eH]; exact h2⟩
    | ow d => obtain ⟨l, u, h1, h2, h3, h4, h5⟩ := q; exact ⟨l, u, h1, h2, h3, by rw [upd_ne fun z => hm i ⟨⟨d, .inl e⟩, by rw [← z]; exact h1⟩]; exact h4, by rw [eH]; exact h5⟩
    | io d => obtain ⟨l, u, h1, h2, h3, h4, h5⟩ := q; exact ⟨l, u, h1, h2, h3, by rw [upd_ne fun z => hm i ⟨⟨d, .inr e⟩, by rw [← z]; exact h1⟩]; exact h4, by rw [eH]; exact h5⟩
    | bo d => obtain ⟨v, h1, h2, h3⟩ := q; exact ⟨v, h1, h2, by rw [eH]; exact h3⟩
  · have hne : a ≠ p := fun z => by rw [z, h0] at e; cases e
    rw [upd_ne hne]; exact R.fr a u e n
  · by_cases z : a = p
    · rw [z, upd_same]; intro q; cases q
    · rw [upd_ne z]; exact R.al a ha
/-- an owned address is let go -/
theorem RelO.letgo (R : RelO C Γ O σ H) (h0 : C.H0 p = none) (hm : ∀ i, ¬ MutAt Γ σ i p) (hu : ∀ q ∈ C.U, q.1 ≠ p) {O' : List Addr} (ho : ∀ a, a ∈ O' ↔ a ∈ O ∧ a ≠ p) : RelO C Γ O' σ H ∧ Same (hide O H) (hide O' H) := by
  have e : Same (hide O H) (hide O' H) := hide_sub fun a h => ((ho a).mp h).1
  refine ⟨⟨fun i s es => ?_, R.ds, R.fr, R.mm, R.bb, fun a ha => (ho a).mpr ⟨R.oo a ha, fun z => R.o0 a ha (by rw [z]; exact h0)⟩, fun a ha => R.al a ((ho a).mp ha).1, fun a ha => R.ol a ((ho a).mp ha).1, R.o0, fun q hq => (R.tt q hq).mono e, fun q hq => ⟨(R.uu q hq).1, (ho _).mpr ⟨(R.uu q hq).2.1, hu q hq⟩, (R.uu q hq).2.2⟩, R.len⟩, e⟩
  have q := R.sl i s es
  cases s with
  | no => trivial
  | sh d => obtain ⟨v, h1, h2⟩ := q; exact ⟨v, h1, h2.mono e⟩
  | ow d => obtain ⟨l, u, h1, h2, h3, h4, h5⟩ := q; exact ⟨l, u, h1, (ho l).mpr ⟨h2, fun z => hm i ⟨⟨d, .inl es⟩, by rw [← z]; exact h1⟩⟩, h3, h4, h5.mono e⟩
  | io d => obtain ⟨l, u, h1, h2, h3, h4, h5⟩ := q; exact ⟨l, u, h1, h2, (ho l).mpr ⟨h3, fun z => hm i ⟨⟨d, .inr es⟩, by rw [← z]; exact h1⟩⟩, h4, h5.mono e⟩
  | bo d =>
    obtain ⟨v, h1, h2, h3⟩ := q
    refine ⟨v, h1, h2, ?_⟩
    rcases h3 with h3 | ⟨l, u, h3, h4, h5, h6⟩
    · exact .inl (h3.mono e)
    · exact .inr ⟨l, u, h3, h4, h5, h6.mono e⟩
end
/-! ### the slots of a comprehension's own names -/
def wipeD (Γ : Env) : List Nat → Env
  | [] => Γ
  | v :: vs => (wipeD Γ vs).set v .no
def restD (Γ Δ : Env) : List Nat → Env
  | [] => Δ
  | v :: vs => (restD Γ Δ vs).set v ((Γ[v]?).getD .no)
def okOwn (Γ : Env) : List Nat → Bool
  | [] => true
  | v :: vs => (match Γ[v]? with
    | some .no => true
    | some (.sh _) => true
    | _ => false) && okOwn Γ vs
theorem okOwn_at {Γ : Env} : ∀ {vs : List Nat} {i : Nat}, okOwn Γ vs = true → i ∈ vs → Γ[i]? = some .no ∨ ∃ d, Γ[i]? = some (.sh d)
  | [], _, _, h => absurd h (by simp)
  | v :: vs, i, e, h => by
    unfold okOwn at e
    rw [Bool.and_eq_true] at e
    rcases List.mem_cons.mp h with z | z
    · subst z
      have e1 := e.1
      split at e1
      · rename_i q; exact .inl q
      · rename_i d q; exact .inr ⟨d, q⟩
      · cases e1
    · exact okOwn_at e.2 z
theorem wipeD_get {Γ : Env} : ∀ {vs : List Nat} {i : Nat} {s : Sl}, (wipeD Γ vs)[i]? = some s → s = .no ∨ Γ[i]? = some s
  | [], _, _, h => .inr h
  | v :: vs, i, s, h => by
    unfold wipeD at h
    by_cases e : v = i
    · subst e
      exact .inl (get_set_same h).symm
    · rw [get_set_ne e] at h
      exact wipeD_get h
theorem restD_len {Γ Δ : Env} : ∀ vs : List Nat, (restD Γ Δ vs).length = Δ.length
  | [] => rfl
  | v :: vs => by unfold restD; rw [List.length_set, restD_len vs]
theorem restD_out {Γ Δ : Env} : ∀ {vs : List Nat} {i : Nat}, i ∉ vs → (restD Γ Δ vs)[i]? = Δ[i]?
  | [], _, _ => rfl
  | v :: vs, i, h => by
    unfold restD
    rw [get_set_ne fun e => h (by simp [e])]
    exact restD_out fun z => h (List.mem_cons_of_mem _ z)
theorem restD_in {Γ Δ : Env} : ∀ {vs : List Nat} {i : Nat} {s : Sl}, i ∈ vs → (restD Γ Δ vs)[i]? = some s → s = (Γ[i]?).getD .no
  | [], _, _, h, _ => absurd h (by simp)
  | v :: vs, i, s, h, e => by
    unfold restD at e
    by_cases z : v = i
    · subst z
      exact (get_set_same e).symm
    · rw [get_set_ne z] at e
      rcases List.mem_cons.mp h with q | q
      · exact absurd q.symm z
      · exact restD_in q e
section
variable {C : Ctx} {Γ Δ : Env} {O : List Addr} {σ σ2 : St} {H H' : Hp}
theorem RelO.wipe (R : RelO C Γ O σ H) : ∀ {vs : List Nat}, okOwn Γ vs = true → RelO C (wipeD Γ vs) O (L2.wipe σ vs) H
  | [], _ => R
  | v :: vs, h => by
    have h2 : okOwn Γ vs = true := by
      unfold okOwn at h
      rw [Bool.and_eq_true] at h
      exact h.2
    refine (RelO.wipe R h2).setNo ⟨fun d e => ?_, fun d e => ?_⟩ none
    · rcases wipeD_get e with q | q
      · cases q
      · rcases okOwn_at h List.mem_cons_self with z | ⟨_, z⟩ <;> rw [q] at z <;> cases z
    · rcases wipeD_get e with q | q
      · cases q
      · rcases okOwn_at h List.mem_cons_self with z | ⟨_, z⟩ <;> rw [q] at z <;> cases z
theorem RelO.rest {vs : List Nat} (R0 : RelO C Γ O σ H) (e : Same (hide O H) (hide O H')) (R : RelO C Δ O σ2 H') (hw : L2.wipe σ2 vs = L2.wipe σ vs) (hk : okOwn Γ vs = true) : RelO C (restD Γ Δ vs) O σ H' := by
  have same : ∀ {j : Nat}, j ∉ vs → σ[j]? = σ2[j]? := fun {j} h => by rw [← wipe_out h, ← hw, wipe_out h]
  have lenS : σ2.length = σ.length := by rw [← L2.wipe_length σ2 vs, hw, L2.wipe_length]
  have mutd : ∀ j a, MutAt (restD Γ Δ vs) σ j a → MutAt Δ σ2 j a := fun j a ⟨⟨d, h⟩, h2⟩ => by
    by_cases hj : j ∈ vs
    · exfalso
      rcases h with h | h
      · have q := restD_in hj h
        rcases okOwn_at hk hj with z | ⟨_, z⟩ <;> rw [z] at q <;> cases q
      · have q := restD_in hj h
        rcases okOwn_at hk hj with z | ⟨_, z⟩ <;> rw [z] at q <;> cases q
    · rw [restD_out hj] at h
      exact ⟨⟨d, h⟩, by rw [← same hj]; exact h2⟩
  have out : ∀ {j : Nat} {d : D}, (Γ[j]? = some (.io d) ∨ Γ[j]? = some (.bo d)) → j ∉ vs := fun {j d} h z => by
    rcases okOwn_at hk z with q | ⟨_, q⟩ <;> rcases h with h | h <;> rw [h] at q <;> cases q
  refine ⟨fun j s h => ?_, fun i j a n h1 h2 => R.ds i j a n (mutd _ _ h1) (mutd _ _ h2), R.fr, fun q hq => ?_, fun q hq => ?_, R.oo, R.al, R.ol, R.o0, R.tt, fun q hq => ⟨(R.uu q hq).1, (R.uu q hq).2.1, fun j hj => (R.uu q hq).2.2 j (mutd _ _ hj)⟩, by rw [restD_len, R.len, lenS]⟩
  · by_cases hj : j ∈ vs
    · have q := restD_in hj h
      rcases okOwn_at hk hj with z | ⟨d, z⟩
      · rw [z] at q; subst q; trivial
      · rw [z] at q
        subst q
        obtain ⟨v, h1, h2⟩ := R0.sl j _ z
        exact ⟨v, h1, h2.mono e⟩
    · rw [restD_out hj] at h
      have q := R.sl j s h
      have es := same hj
      cases s with
      | no => trivial
      | sh d => unfold SlOk at q ⊢; rw [es]; exact q
      | ow d => unfold SlOk at q ⊢; rw [es]; exact q
      | io d => unfold SlOk at q ⊢; rw [es]; exact q
      | bo d => unfold SlOk at q ⊢; rw [es]; exact q
  · obtain ⟨d, h⟩ := (R0.mm q hq).2
    have ho := out (.inl h)
    exact ⟨(R0.mm q hq).1, by rw [restD_out ho]; exact (R.mm q hq).2⟩
  · obtain ⟨d, h⟩ := (R0.bb q hq).2
    have ho := out (.inr h)
    exact ⟨(R0.bb q hq).1, by rw [restD_out ho]; exact (R.bb q hq).2⟩
end
/-- what a source asks at each turn -/
def srcD (Γ : Env) : Src → Prop
  | .pl i d => rd Γ (.pl i) = some d
  | _ => True
def compM (src : Src) (mg : DTG) (mt : DTT) (me : DTE) (vs : List Nat) (Q : List D → Env → Prop) : List D → List D → Env → Prop
  | [], acc, Γ => srcD Γ src ∧ Q acc Γ
  | x :: xs, acc, Γ => srcD Γ src ∧ okOwn Γ vs = true ∧ mg x (wipeD Γ vs) fun Γ2 => mt Γ2 fun b Γ3 =>
      if b = true then me Γ3 fun r Γ4 => ∃ d, dat r = some d ∧ acc.length < 100000 ∧ compM src mg mt me vs Q xs (acc ++ [d]) (restD Γ Γ4 vs) else compM src mg mt me vs Q xs acc (restD Γ Γ3 vs)
def mComp (mi : DTI) (mg : DTG) (mt : DTT) (me : DTE) (vs : List Nat) : DTE := fun Γ Q => mi Γ fun src items Γ1 => compM src mg mt me vs (fun acc Γ2 => Q (.fr (.lst acc)) Γ2) items [] Γ1
/-- a target stores to the own names alone -/
def OwnG (g : TG) (vs : List Nat) : Prop := ∀ (v : V) (σ : St) (H : Hp) (Q : St → Hp → Prop), g v σ H Q → g v σ H fun σ' H' => L2.wipe σ' vs = L2.wipe σ vs ∧ Q σ' H'
theorem wipe_set {σ : St} {x : Option V} : ∀ {vs : List Nat} {i : Nat}, i ∈ vs → L2.wipe (σ.set i x) vs = L2.wipe σ vs
  | [], _, h => absurd h (by simp)
  | v :: vs, i, h => by
    by_cases e : i ∈ vs
    · unfold L2.wipe
      rw [wipe_set e]
    · have : i = v := by
        rcases List.mem_cons.mp h with z | z
        · exact z
        · exact absurd z e
      subst this
      unfold L2.wipe
      have comm : ∀ {ws : List Nat}, i ∉ ws → L2.wipe (σ.set i x) ws = (L2.wipe σ ws).set i x := fun {ws} => by
        induction ws with
        | nil => intro _; rfl
        | cons w ws ih =>
          intro hn
          unfold L2.wipe
          rw [ih fun z => hn (List.mem_cons_of_mem _ z)]
          exact List.set_comm _ _ (fun z => hn (by simp [z]))
      rw [comm e, List.set_set]
theorem own_name {i : Nat} {vs : List Nat} (h : i ∈ vs) : OwnG (gName i) vs := fun v σ H Q q => ⟨wipe_set h, q⟩
theorem mono_name {i : Nat} (v : V) (σ : St) (H : Hp) (Q Q' : St → Hp → Prop) (k : ∀ σ H, Q σ H → Q' σ H) (h : gName i v σ H Q) : gName i v σ H Q' := k _ _ h
section
variable {C : Ctx}
/-- the readable source, at any later heap -/
theorem SrcOk.at {Γ Γ' : Env} {O O' : List Addr} {σ : St} {H H' : Hp} {g : List Addr → Hp → Prop} {src : Src} (h : SrcOk C Γ O σ H g src) (e : Same (hide O H) (hide O' H')) (R : RelO C Γ' O' σ H') (hd : srcD Γ' src) : g O' H' := by
  cases src with
  | no => exact h O' H'
  | val d =>
    obtain ⟨v, h1, h2⟩ := h
    exact h2 O' H' (h1.mono e)
  | v2 a b =>
    obtain ⟨v, w, h1, h1', h2⟩ := h
    exact h2 O' H' (h1.mono e) (h1'.mono e)
  | pl i d =>
    obtain ⟨v, h1, _, h2⟩ := h
    exact h2 O' H' (Pend.b2 (r := .pl i) R h1 hd)
theorem sim_comp {wi : TI} {g : TG} {tt : TT} {te : TE} {vs : List Nat} {mi : DTI} {mg : DTG} {mt : DTT} {me : DTE} (hi : SimI C wi mi) (hg : ∀ U, SimG { C with U := U } g mg) (hgo : OwnG g vs) (ht : ∀ U, SimT { C with U := U } tt mt) (he : ∀ U, SimE { C with U := U } te me)
    (hgm : ∀ (v : V) (σ : St) (H : Hp) (Q Q' : St → Hp → Prop), (∀ σ H, Q σ H → Q' σ H) → g v σ H Q → g v σ H Q') : SimE C (tLc wi g tt te vs) (mComp mi mg mt me vs) := fun Γ O σ H Qd Q R h k => by
  refine hi Γ O σ H _ _ R h fun src items Γ1 J H1 n gg R1 e1 itd sok q => ?_
  intro Dd hD
  have h0 : C.H0 Dd = none := R1.fresh0 hD
  have hDO : Dd ∉ O := R1.notin hD
  have hU : ∀ q ∈ C.U, q.1 ≠ Dd := fun q hq => ne_of_none (R1.uu q hq).1 hD
  have hM1 : ∀ i, ¬ MutAt Γ1 σ i Dd := fun i hm => hDO (R1.mutIn hm)
  -- the invariant
  let Wp : Nat → Nat → Hp → Prop := fun i m Hc => m = n - i ∧ i ≤ n ∧ ∃ (acc : List D) (vacc : List V) (Γi : Env), RelO { C with U := (Dd, .lst vacc) :: C.U } Γi (Dd :: O) σ Hc ∧ Same (hide O H1) (hide (Dd :: O) Hc) ∧ Reps C.K (hide (Dd :: O) Hc) vacc acc ∧
    compM src mg mt me vs (fun acc Γ2 => Qd (.fr (.lst acc)) Γ2) (items.drop i) acc Γi
  refine ⟨Wp, ⟨n, by simp, Nat.zero_le _, [], [], Γ1, ?_, hide_newO hD, .nil, q⟩, ?_⟩
  · refine (R1.allocO hD).congrU fun q hq => ?_
    rcases List.mem_cons.mp hq with z | z
    · subst z; exact ⟨upd_same, List.mem_cons_self, hM1⟩
    · exact (R1.allocO hD).uu q z
  rintro i m Hc ⟨rfl, hin, acc, vacc, Γi, Ri, ei, ri, qi⟩
  have RC : RelO C Γi (Dd :: O) σ Hc := Ri.backU fun q hq => List.mem_cons_of_mem _ hq
  have hDc : Hc Dd = some (.lst vacc) := (Ri.uu _ List.mem_cons_self).1
  have hDm : ∀ i, ¬ MutAt Γi σ i Dd := (Ri.uu _ List.mem_cons_self).2.2
  by_cases hlt : i < n
  · have hil : i < items.length := by rw [itd.len]; exact hlt
    have ed : items.drop i = items[i] :: items.drop (i + 1) := List.drop_eq_getElem_cons hil
    rw [ed] at qi
    obtain ⟨hs, hk, qi⟩ := qi
    have gi : gg (Dd :: O) Hc := sok.at ei RC hs
    refine .inr ⟨itd.go i _ _ gi hlt, fun H' => Wp (i + 1) (n - (i + 1)) H', fun H' w => ⟨n - (i + 1), by omega, w⟩, fun x H' y => ?_⟩
    obtain ⟨d, hd, hx⟩ := itd.yld i _ _ x H' gi hlt y
    have hdi : d = items[i] := by
      rw [List.getElem?_eq_getElem hil] at hd
      exact (Option.some.inj hd).symm
    have st : RelO { C with U := (Dd, .lst vacc) :: C.U } Γi (Dd :: O) σ H' ∧ Rep C.K (hide (Dd :: O) H') x d ∧ Same (hide (Dd :: O) Hc) (hide (Dd :: O) H') := by
      rcases hx with ⟨rfl, hx⟩ | ⟨p, pvs, pds, rfl, hp, rfl, hr, rfl⟩
      · exact ⟨Ri, hx, L2.Same.refl _⟩
      · exact ⟨Ri.alloc hp, .tup (by rw [hide_out (Ri.notin hp)]; exact upd_same) (hr.mono (hide_new hp)), hide_new hp⟩
    obtain ⟨R', r', e'⟩ := st
    rw [← hdi] at qi
    refine hgm _ _ _ _ _ (fun σ2 H2 q2 => ?_) (hgo _ _ _ _ (hg _ (wipeD Γi vs) (Dd :: O) (L2.wipe σ vs) H' x d _ (fun σ2 H2 => ∃ Γ2, RelO { C with U := (Dd, .lst vacc) :: C.U } Γ2 (Dd :: O) σ2 H2 ∧ Same (hide (Dd :: O) H') (hide (Dd :: O) H2) ∧ mt Γ2 fun b Γ3 =>
        if b = true then me Γ3 fun r Γ4 => ∃ d, dat r = some d ∧ acc.length < 100000 ∧ compM src mg mt me vs (fun acc Γ2 => Qd (.fr (.lst acc)) Γ2) (items.drop (i + 1)) (acc ++ [d]) (restD Γi Γ4 vs) else compM src mg mt me vs (fun acc Γ2 => Qd (.fr (.lst acc)) Γ2) (items.drop (i + 1)) acc (restD Γi Γ3 vs))
        (R'.wipe hk) r' qi fun Γ2 σ2 H2 R2 e2 q2 => ⟨Γ2, R2, e2, q2⟩))
    obtain ⟨hw, Γ2, R2, e2, q2⟩ := q2
    have idem : ∀ (τ : St) (ws : List Nat), (∀ j ∈ ws, j ∈ vs) → L2.wipe (L2.wipe τ ws) ws = L2.wipe τ ws := by
      intro τ ws _
      induction ws with
      | nil => rfl
      | cons w ws ih =>
        show (L2.wipe ((L2.wipe τ ws).set w none) ws).set w none = (L2.wipe τ ws).set w none
        by_cases hww : w ∈ ws
        · rw [wipe_set hww, ih (fun j hj => by rename_i hsub; exact hsub j (List.mem_cons_of_mem _ hj))]
        · have comm : ∀ {us : List Nat} {τ' : St}, w ∉ us → L2.wipe (τ'.set w none) us = (L2.wipe τ' us).set w none := fun {us τ'} => by
            induction us with
            | nil => intro _; rfl
            | cons u us ih2 =>
              intro hn
              unfold L2.wipe
              rw [ih2 fun z => hn (List.mem_cons_of_mem _ z)]
              exact List.set_comm _ _ (fun z => hn (by simp [z]))
          rw [comm hww, List.set_set, ih (fun j hj => by rename_i hsub; exact hsub j (List.mem_cons_of_mem _ hj))]
    have hw' : L2.wipe σ2 vs = L2.wipe σ vs := hw.trans (idem σ vs fun _ h => h)
    refine ⟨hw', ?_⟩
    · refine ht _ Γ2 (Dd :: O) σ2 H2 _ _ R2 q2 fun b Γ3 H3 R3 e3 q3 => ?_
      have eAll3 := L2.Same.trans ei (L2.Same.trans e' (L2.Same.trans e2 e3))
      cases b with
      | true =>
        refine he _ Γ3 (Dd :: O) σ2 H3 _ _ R3 q3 fun r Γ4 y H4 R4 e4 q4 => ?_
        obtain ⟨dy, hdy, hacc, q4⟩ := q4
        have ry : Rep C.K (hide (Dd :: O) H4) y dy := R4.pend.dat hdy
        have hD4 : H4 Dd = some (.lst vacc) := (R4.rel.uu _ List.mem_cons_self).1
        have e5 : hide (Dd :: O) (upd H4 Dd (.lst (vacc ++ [y]))) = hide (Dd :: O) H4 := hide_mut List.mem_cons_self
        have racc : Reps C.K (hide (Dd :: O) H4) vacc acc := ri.mono (L2.Same.trans e' (L2.Same.trans e2 (L2.Same.trans e3 e4.1)))
        refine ⟨vacc, hD4, by rw [racc.length]; exact Nat.lt_of_lt_of_le hacc (by decide), rfl, hlt, acc ++ [dy], vacc ++ [y], restD Γi Γ4 vs, ?_, ?_, ?_, q4⟩
        · have Rr := R'.rest (L2.Same.trans e2 (L2.Same.trans e3 e4.1)) R4.rel hw' hk
          have RrC : RelO C (restD Γi Γ4 vs) (Dd :: O) σ H4 := Rr.backU fun q hq => List.mem_cons_of_mem _ hq
          have hm4 := (Rr.uu _ List.mem_cons_self).2.2
          have Ru := RrC.updFree (o := .lst (vacc ++ [y])) List.mem_cons_self h0 hm4 hU
          refine Ru.congrU fun q hq => ?_
          rcases List.mem_cons.mp hq with z | z
          · subst z; exact ⟨upd_same, List.mem_cons_self, hm4⟩
          · exact Ru.uu q z
        · rw [e5]; exact L2.Same.trans eAll3 e4.1
        · rw [e5]; exact racc.append (.cons ry .nil)
      | false =>
        refine ⟨rfl, hlt, acc, vacc, restD Γi Γ3 vs, R'.rest (L2.Same.trans e2 e3) R3 hw' hk, eAll3, ri.mono (L2.Same.trans e' (L2.Same.trans e2 e3)), q3⟩
  · have e : i = n := by omega
    subst e
    rw [List.drop_of_length_le (by rw [itd.len]; exact Nat.le_refl _)] at qi
    obtain ⟨hs, qi⟩ := qi
    refine .inl ⟨itd.stop _ _ (sok.at ei RC hs), ?_⟩
    obtain ⟨RO, eO⟩ := RC.letgo (O' := O) h0 hDm hU fun a => ⟨fun ha => ⟨List.mem_cons_of_mem _ ha, fun z => hDO (z ▸ ha)⟩, fun ha => (List.mem_cons.mp ha.1).resolve_left ha.2⟩
    exact k (.fr (.lst acc)) Γi (.ref Dd) Hc ⟨RO, Dd, .lst vacc, rfl, hDc, hDO, h0, .lst ri, RC⟩ (.fr (L2.Same.trans e1 ei)) qi
end
end DL
/-! the data layer, part 7: statements -/
namespace DL
open PySem L2
def mYes : DTT := fun Γ Q => Q true Γ
theorem sim_yes {C : Ctx} : SimT C tYes mYes := fun Γ O σ H Qd Q R h k => k true Γ H R (L2.Same.refl _) h
/-! ### statements -/
structure DEnds where
  nx : Env → Prop
  rt : Res → Env → Prop
  bk : Env → Prop := fun _ => False
  ct : Env → Prop := fun _ => False
abbrev DTS := DEnds → Env → Prop
structure Link (C : Ctx) (D : Ends) (Dd : DEnds) : Prop where
  nx : ∀ Γ O σ H, RelO C Γ O σ H → Dd.nx Γ → D.nx σ H
  rt : ∀ r Γ O σ H v, ROk C Γ O σ H v r → Dd.rt r Γ → D.rt v H
  bk : ∀ Γ O σ H, RelO C Γ O σ H → Dd.bk Γ → D.bk σ H
  ct : ∀ Γ O σ H, RelO C Γ O σ H → Dd.ct Γ → D.ct σ H
def SimS (C : Ctx) (t : TS) (m : DTS) : Prop := ∀ (Γ : Env) (O : List Addr) (σ : St) (H : Hp) (D : Ends) (Dd : DEnds), RelO C Γ O σ H → m Dd Γ → Link C D Dd → t D σ H
structure DS (X : Cx) (C : Ctx) (st : Stmt) (t : TS) (m : DTS) : Prop where
  ps : PS X st t
  sim : SimS C t m
structure DSs (X : Cx) (C : Ctx) (st : List Stmt) (t : TS) (m : DTS) : Prop where
  pss : PSs X st t
  sim : SimS C t m
def mNext : DTS := fun D Γ => D.nx Γ
def mSeqS (m n : DTS) : DTS := fun D Γ => m { D with nx := n D } Γ
def mBrk : DTS := fun D Γ => D.bk Γ
def mCnt : DTS := fun D Γ => D.ct Γ
def mDrop (ma : DTE) : DTS := fun D Γ => ma Γ fun _ Γ1 => D.nx Γ1
def mRet (ma : DTE) : DTS := fun D Γ => ma Γ D.rt
def mRetN : DTS := fun D Γ => D.rt (.val .non) Γ
def mIfS (mt : DTT) (m n : DTS) : DTS := fun D Γ => mt Γ fun b Γ1 => if b = true then m D Γ1 else n D Γ1
/-- name = e, the object shared from now on | owned by the name -/
def mSet (i : Nat) (ma : DTE) : DTS := fun D Γ => ma Γ fun r Γ1 => ∃ d, dat r = some d ∧ freeB Γ1 i = true ∧ D.nx (Γ1.set i (.sh d))
def mSetO (i : Nat) (ma : DTE) : DTS := fun D Γ => ma Γ fun r Γ1 => ∃ d, r = .fr d ∧ freeB Γ1 i = true ∧ D.nx (Γ1.set i (.ow d))
/-- a ghost step: the object of slot i is shared from now on -/
def frzD (Γ : Env) (i : Nat) : Option Env := match Γ[i]? with
  | some (.ow d) => some (Γ.set i (.sh d))
  | some (.sh _) => some Γ
  | _ => none
def mFrz (i : Nat) (m : DTS) : DTS := fun D Γ => ∃ Γ1, frzD Γ i = some Γ1 ∧ m D Γ1
section
variable {X : Cx} {C : Ctx} {st : Stmt} {rest a b : List Stmt} {t u : TS} {m n : DTS} {e c : Expr} {te : TE} {me : DTE} {tc : TT} {mc : DTT} {pos : Pos}
theorem sim_next : SimS C tNext mNext := fun Γ O σ H D Dd R h L => L.nx Γ O σ H R h
theorem sim_seq (h1 : SimS C t m) (h2 : SimS C u n) : SimS C (tSeq t u) (mSeqS m n) := fun Γ O σ H D Dd R h L => h1 Γ O σ H _ _ R h ⟨fun Γ O σ H R h => h2 Γ O σ H _ _ R h L, L.rt, L.bk, L.ct⟩
theorem sim_drop (h1 : SimE C te me) : SimS C (tDrop te) (mDrop me) := fun Γ O σ H D Dd R h L => h1 Γ O σ H _ _ R h fun r Γ1 v H1 R1 e1 q => L.nx Γ1 O σ H1 R1.rel q
theorem sim_ret (h1 : SimE C te me) : SimS C (tRet te) (mRet me) := fun Γ O σ H D Dd R h L => h1 Γ O σ H _ _ R h fun r Γ1 v H1 R1 e1 q => L.rt r Γ1 O σ H1 v R1 q
theorem sim_ifS (hc : SimT C tc mc) (h1 : SimS C t m) (h2 : SimS C u n) : SimS C (tIfS tc t u) (mIfS mc m n) := fun Γ O σ H D Dd R h L => hc Γ O σ H _ _ R h fun b Γ1 H1 R1 e1 q => by
  cases b with
  | true => exact h1 Γ1 O σ H1 D Dd R1 q L
  | false => exact h2 Γ1 O σ H1 D Dd R1 q L
theorem sim_set {i : Nat} (h1 : SimE C te me) : SimS C (tAsg te (gName i)) (mSet i me) := fun Γ O σ H D Dd R h L => h1 Γ O σ H _ _ R h fun r Γ1 v H1 R1 e1 q => by
  obtain ⟨d, hd, hf, q⟩ := q
  exact L.nx _ O _ H1 (R1.rel.setSh (freeB_of hf) (R1.pend.dat hd)) q
theorem sim_setO {i : Nat} (h1 : SimE C te me) : SimS C (tAsg te (gName i)) (mSetO i me) := fun Γ O σ H D Dd R h L => h1 Γ O σ H _ _ R h fun r Γ1 v H1 R1 e1 q => by
  obtain ⟨d, rfl, hf, q⟩ := q
  obtain ⟨R1, p, o, rfl, hp, hpO, h0, ho, R2⟩ := R1
  exact L.nx _ (p :: O) _ H1 (R2.setOw (freeB_of hf) (fun j hj => hpO (R1.mutIn hj)) (fun q hq z => hpO (z ▸ (R1.uu q hq).2.1)) h0 hp ho) q
theorem sim_frz {i : Nat} (h1 : SimS C t m) : SimS C t (mFrz i m) := fun Γ O σ H D Dd R h L => by
  obtain ⟨Γ1, e, q⟩ := h
  unfold frzD at e
  split at e
  · rename_i d hd
    cases e
    obtain ⟨O', R', _⟩ := R.freeze hd
    exact h1 _ O' σ H D Dd R' q L
  · cases e
    exact h1 Γ O σ H D Dd R q L
  · cases e
theorem ds_nil : DSs X C [] tNext mNext := ⟨pss_nil, sim_next⟩
theorem ds_cons (h1 : DS X C st t m) (h2 : DSs X C rest u n) : DSs X C (st :: rest) (tSeq t u) (mSeqS m n) := ⟨pss_cons h1.ps h2.pss, sim_seq h1.sim h2.sim⟩
theorem ds_one (h1 : DS X C st t m) : DSs X C [st] t m := ⟨pss_one h1.ps, h1.sim⟩
theorem ds_expr (h : DE X C e te me) (hs : swapsWith e none pos.line X.env = pure false := by rfl) : DS X C (.Expr e pos) (tDrop te) (mDrop me) := ⟨ps_expr h.pe hs, sim_drop h.sim⟩
theorem ds_ret (h : DE X C e te me) : DS X C (.Return (some e) pos) (tRet te) (mRet me) := ⟨ps_ret h.pe, sim_ret h.sim⟩
theorem ds_if (hc : DT X C c tc mc) (ha : DSs X C a t m) (hb : DSs X C b u n) : DS X C (.If c a b pos) (tIfS tc t u) (mIfS mc m n) := ⟨ps_if hc.pt ha.pss hb.pss, sim_ifS hc.sim ha.sim hb.sim⟩
/-- name = e: h is ps_set (or ps_setLc) of the expression's rule -/
theorem ds_set {i : Nat} (he : DE X C e te me) (h : PE X e te → PS X st (tAsg te (gName i))) : DS X C st (tAsg te (gName i)) (mSet i me) := ⟨h he.pe, sim_set he.sim⟩
theorem ds_setO {i : Nat} (he : DE X C e te me) (h : PE X e te → PS X st (tAsg te (gName i))) : DS X C st (tAsg te (gName i)) (mSetO i me) := ⟨h he.pe, sim_setO he.sim⟩
/-- .. of a comprehension that is stored within its own frame -/
theorem ds_setS {i : Nat} (h : PS X st (tAsg te (gName i))) (hs : SimE C te me) : DS X C st (tAsg te (gName i)) (mSet i me) := ⟨h, sim_set hs⟩
theorem ds_setSO {i : Nat} (h : PS X st (tAsg te (gName i))) (hs : SimE C te me) : DS X C st (tAsg te (gName i)) (mSetO i me) := ⟨h, sim_setO hs⟩
theorem dss_frz (i : Nat) (h : DSs X C a t m) : DSs X C a t (mFrz i m) := ⟨h.pss, sim_frz h.sim⟩
/-- target = e -/
def mAsg (ma : DTE) (mg : DTG) : DTS := fun D Γ => ma Γ fun r Γ1 => ∃ d, dat r = some d ∧ mg d Γ1 D.nx
theorem sim_asg {g : TG} {mg : DTG} (h1 : SimE C te me) (h2 : SimG C g mg) : SimS C (tAsg te g) (mAsg me mg) := fun Γ O σ H D Dd R h L => h1 Γ O σ H _ _ R h fun r Γ1 v H1 R1 e1 q => by
  obtain ⟨d, hd, q⟩ := q
  exact h2 Γ1 O σ H1 v d _ _ R1.rel (R1.pend.dat hd) q fun Γ2 σ2 H2 R2 e2 q2 => L.nx Γ2 O σ2 H2 R2 q2
theorem ds_asg {tg : Expr} {g : TG} {mg : DTG} (he : DE X C e te me) (hg : DG X C tg g mg) (hs : swapsWithSole [tg] e pos.line X.env = pure false := by rfl) (hw : swappedStores [tg] e X.env = pure none := by rfl)
    (h1 : (assignEach [tg] X.env).map (·.2) = [assign tg X.env] := by rfl) : DS X C (.Assign [tg] e pos) (tAsg te g) (mAsg me mg) := ⟨ps_asg he.pe hg.pg hs hw h1, sim_asg he.sim hg.sim⟩
/-- name op= e: ints, texts, and lists that the name owns -/
def mAug (i : Nat) (me : DTE) (f : D → D → (Res → Prop) → Prop) : DTS := fun D Γ => ∃ x, Γ[i]? = some (.sh x) ∧ me Γ fun r Γ1 => ∃ y, rd Γ1 r = some y ∧ f x y fun z => ∃ d, z = .val d ∧ freeB Γ1 i = true ∧ D.nx (Γ1.set i (.sh d))
def addI : D → D → (Res → Prop) → Prop
  | .int i, .int j, Q => Q (.val (.int (i + j)))
  | _, _, _ => False
def subI : D → D → (Res → Prop) → Prop
  | .int i, .int j, Q => Q (.val (.int (i - j)))
  | _, _, _ => False
theorem sim_aug {i : Nat} {g : Int → Int → Int} {f : D → D → (Res → Prop) → Prop} (hf : ∀ a b Q, f a b Q → ∃ i j, a = .int i ∧ b = .int j ∧ Q (.val (.int (g i j)))) (h1 : SimE C te me) : SimS C (tAug i te (ipI g)) (mAug i me f) := fun Γ O σ H D Dd R h L => by
  obtain ⟨x, hx, q⟩ := h
  obtain ⟨v, hv, rv⟩ := R.sl i _ hx
  refine ⟨v, hv, h1 Γ O σ H _ _ R q fun r Γ1 w H1 R1 e1 q1 => ?_⟩
  obtain ⟨y, hy, q1⟩ := q1
  obtain ⟨a, b, rfl, rfl, d, hd, hfr, q1⟩ := hf x y _ q1
  cases hd
  obtain rfl := (show B2 C.K O H v (.int a) from .inl rv).int
  obtain rfl := (R1.pend.b2 R1.rel hy).int
  exact ⟨a, b, rfl, rfl, L.nx _ O _ H1 (R1.rel.setSh (freeB_of hfr) (.int _)) q1⟩
theorem sim_augAdd {i : Nat} (h1 : SimE C te me) : SimS C (tAug i te (ipI fun i j => i + j)) (mAug i me addI) := sim_aug (fun a b Q h => by
  unfold addI at h
  split at h
  · exact ⟨_, _, rfl, rfl, h⟩
  · exact h.elim) h1
theorem ds_augAdd {i : Nat} (he : DE X C e te me) (h : PE X e te → PS X st (tAug i te (ipI fun i j => i + j))) : DS X C st (tAug i te (ipI fun i j => i + j)) (mAug i me addI) := ⟨h he.pe, sim_augAdd he.sim⟩
end
/-! ### for -/
/-- what a source asks at each turn of a loop: a place is a parameter that is only looked at -/
def srcL (Γ : Env) : Src → Prop
  | .pl i d => Γ[i]? = some (.bo d)
  | _ => True
def loopM (src : Src) (mg : DTG) (mb : DTS) (K : DEnds) : List D → Env → Prop
  | [], Γ => srcL Γ src ∧ K.nx Γ
  | x :: xs, Γ => srcL Γ src ∧ mg x Γ fun Γ2 => mb { K with nx := loopM src mg mb K xs, ct := loopM src mg mb K xs, bk := K.nx } Γ2
def mFor (mi : DTI) (mg : DTG) (mb : DTS) : DTS := fun K Γ => mi Γ fun src items Γ1 => loopM src mg mb K items Γ1
section
variable {C : Ctx}
theorem ROk.backT {T : List (V × D)} {Γ : Env} {O : List Addr} {σ : St} {H : Hp} {v : V} {r : Res} (h : ROk { C with T := T } Γ O σ H v r) (hT : ∀ q, q ∈ C.T → q ∈ T) : ROk C Γ O σ H v r := by
  cases r with
  | val d => exact ⟨h.1.backT hT, h.2⟩
  | fr d =>
    obtain ⟨h1, p, o, e, h2, h3, h4, h5, h6⟩ := h
    exact ⟨h1.backT hT, p, o, e, h2, h3, h4, h5, h6.backT hT⟩
  | pl i => exact ⟨h.1.backT hT, h.2⟩
  | np a ds => exact ⟨h.1.backT hT, h.2⟩
theorem sim_for {wi : TI} {g : TG} {tb : TS} {mi : DTI} {mg : DTG} {mb : DTS} (hi : SimI C wi mi) (hg : ∀ T, SimG { C with T := T } g mg) (hb : ∀ T, SimS { C with T := T } tb mb) : SimS C (tFor wi g tb) (mFor mi mg mb) := fun Γ O σ H D Dd R h L => by
  refine hi Γ O σ H _ _ R h fun src items Γ1 J H1 n gg R1 e1 itd sok q => ?_
  -- what is held meanwhile
  have hold : ∃ T, (∀ q, q ∈ C.T → q ∈ T) ∧ RelO { C with T := T } Γ1 O σ H1 ∧ ∀ Γ' O' σ' H', RelO { C with T := T } Γ' O' σ' H' → srcL Γ' src → gg O' H' := by
    cases src with
    | no => exact ⟨C.T, fun _ h => h, R1, fun Γ' O' σ' H' _ _ => sok O' H'⟩
    | val d =>
      obtain ⟨v, h1, h2⟩ := sok
      refine ⟨(v, d) :: C.T, fun _ h => List.mem_cons_of_mem _ h, R1.congrT fun q hq => ?_, fun Γ' O' σ' H' R' _ => h2 O' H' (R'.tt _ List.mem_cons_self)⟩
      rcases List.mem_cons.mp hq with z | z
      · subst z; exact h1
      · exact R1.tt q z
    | v2 a b =>
      obtain ⟨v, w, h1, h1', h2⟩ := sok
      refine ⟨(v, a) :: (w, b) :: C.T, fun _ h => List.mem_cons_of_mem _ (List.mem_cons_of_mem _ h), R1.congrT fun q hq => ?_, fun Γ' O' σ' H' R' _ => h2 O' H' (R'.tt _ List.mem_cons_self) (R'.tt _ (List.mem_cons_of_mem _ List.mem_cons_self))⟩
      rcases List.mem_cons.mp hq with z | z
      · subst z; exact h1
      · rcases List.mem_cons.mp z with z | z
        · subst z; exact h1'
        · exact R1.tt q z
    | pl i d =>
      obtain ⟨v, h1, h2, h3⟩ := sok
      refine ⟨C.T, fun _ h => h, R1, fun Γ' O' σ' H' R' hl => ?_⟩
      have hl : Γ'[i]? = some (.bo d) := hl
      obtain ⟨v', g1, g2, g3⟩ := R'.sl i _ hl
      have hv : v' = v := by
        have b1 := (R1.bb _ g2).1
        rw [h1] at b1
        exact (Option.some.inj (Option.some.inj b1)).symm
      subst hv
      refine h3 O' H' (Pend.b2 (r := .pl i) R' g1 ?_)
      show cont Γ'[i]? = some d
      rw [hl]; rfl
  obtain ⟨T, hT, RT, hgg⟩ := hold
  refine ⟨fun i m σ H => m = n - i ∧ i ≤ n ∧ ∃ Γ O, RelO { C with T := T } Γ O σ H ∧ loopM src mg mb Dd (items.drop i) Γ, ⟨n, by simp, Nat.zero_le _, Γ1, O, RT, q⟩, ?_⟩
  rintro i m σ2 H2 ⟨rfl, hin, Γ2, O2, R2, q2⟩
  by_cases hlt : i < n
  · have hil : i < items.length := by rw [itd.len]; exact hlt
    rw [List.drop_eq_getElem_cons hil] at q2
    obtain ⟨hs, q2⟩ := q2
    have gi := hgg _ _ _ _ R2 hs
    refine .inr ⟨itd.go i _ _ gi hlt, fun σ' H' => ∃ Γ' O', RelO { C with T := T } Γ' O' σ' H' ∧ loopM src mg mb Dd (items.drop (i + 1)) Γ', fun σ' H' ⟨Γ', O', R', q'⟩ => ⟨n - (i + 1), by omega, rfl, hlt, Γ', O', R', q'⟩, fun x H' y => ?_⟩
    obtain ⟨d, hd, hx⟩ := itd.yld i _ _ x H' gi hlt y
    have hdi : d = items[i] := by
      rw [List.getElem?_eq_getElem hil] at hd
      exact (Option.some.inj hd).symm
    have st : RelO { C with T := T } Γ2 O2 σ2 H' ∧ Rep C.K (hide O2 H') x d := by
      rcases hx with ⟨rfl, hx⟩ | ⟨p, pvs, pds, rfl, hp, rfl, hr, rfl⟩
      · exact ⟨R2, hx⟩
      · exact ⟨R2.alloc hp, .tup (by rw [hide_out (R2.notin hp)]; exact upd_same) (hr.mono (hide_new hp))⟩
    obtain ⟨R', r'⟩ := st
    rw [← hdi] at q2
    refine hg T Γ2 O2 σ2 H' x d _ _ R' r' q2 fun Γ3 σ3 H3 R3 e3 q3 => ?_
    refine hb T Γ3 O2 σ3 H3 _ _ R3 q3 ⟨fun Γ' O' σ' H' R q => ⟨Γ', O', R, q⟩, fun r Γ' O' σ' H' v hr q => L.rt r Γ' O' σ' H' v (hr.backT hT) q, fun Γ' O' σ' H' R q => L.nx Γ' O' σ' H' (R.backT hT) q, fun Γ' O' σ' H' R q => ⟨Γ', O', R, q⟩⟩
  · have e : i = n := by omega
    subst e
    rw [List.drop_of_length_le (by rw [itd.len]; exact Nat.le_refl _)] at q2
    exact .inl ⟨itd.stop _ _ (hgg _ _ _ _ R2 q2.1), L.nx Γ2 O2 σ2 H2 (R2.backT hT) q2.2⟩
/-- while: the invariant by a number that falls -/
def mWhile (mc : DTT) (mb : DTS) : DTS := fun D Γ => ∃ I : Nat → Env → Prop, (∃ n, I n Γ) ∧ ∀ n Γ, I n Γ → mc Γ fun b Γ1 =>
  if b = true then mb { D with nx := fun Γ' => ∃ n', n' < n ∧ I n' Γ', ct := fun Γ' => ∃ n', n' < n ∧ I n' Γ', bk := D.nx } Γ1 else D.nx Γ1
theorem sim_while {tc : TT} {tb : TS} {mc : DTT} {mb : DTS} (hc : SimT C tc mc) (hb : SimS C tb mb) : SimS C (tWhile tc tb) (mWhile mc mb) := fun Γ O σ H D Dd R h L => by
  obtain ⟨I, ⟨n0, i0⟩, turn⟩ := h
  refine ⟨fun n σ H => ∃ Γ O, RelO C Γ O σ H ∧ I n Γ, ⟨n0, Γ, O, R, i0⟩, ?_⟩
  rintro n σ1 H1 ⟨Γ1, O1, R1, i1⟩
  refine hc Γ1 O1 σ1 H1 _ _ R1 (turn n Γ1 i1) fun b Γ2 H2 R2 e2 q2 => ?_
  cases b with
  | true =>
    refine ⟨fun σ' H' => ∃ Γ' O', RelO C Γ' O' σ' H' ∧ ∃ n', n' < n ∧ I n' Γ', fun σ' H' ⟨Γ', O', R', n', hn, hi⟩ => ⟨n', hn, Γ', O', R', hi⟩, ?_⟩
    exact hb Γ2 O1 σ1 H2 _ _ R2 q2 ⟨fun Γ' O' σ' H' R q => ⟨Γ', O', R, q⟩, L.rt, fun Γ' O' σ' H' R q => L.nx Γ' O' σ' H' R q, fun Γ' O' σ' H' R q => ⟨Γ', O', R, q⟩⟩
  | false => exact L.nx Γ2 O1 σ1 H2 R2 q2
end
section
variable {X : Cx} {C : Ctx} {tg iter c : Expr} {body : List Stmt} {wi : TI} {g : TG} {tb : TS} {mi : DTI} {mg : DTG} {mb : DTS} {pos : Pos} {tc : TT} {mc : DTT}
theorem ds_for (hp : PassesOwn (model X.prog X.w) X.A X.env X.xe) (hc : X.calm = true) (hi : DI X C tg iter wi mi) (hg : ∀ T, DG X { C with T := T } tg g mg) (hb : ∀ T, DSs X { C with T := T } body tb mb) (hs : ∀ x, foldedSetIterable iter X.env x = pure x := by intro _; rfl) : DS X C (.For tg iter body [] pos) (tFor wi g tb) (mFor mi mg mb) :=
  ⟨ps_for hp hc hi.pi (hg C.T).pg (hb C.T).pss hs, sim_for hi.sim (fun T => (hg T).sim) fun T => (hb T).sim⟩
theorem ds_while (hp : PassesOwn (model X.prog X.w) X.A X.env X.xe) (hc : DT X C c tc mc) (hb : DSs X C body tb mb) : DS X C (.While c body [] pos) (tWhile tc tb) (mWhile mc mb) := ⟨ps_while hp hc.pt hb.pss, sim_while hc.sim hb.sim⟩
end
end DL
/-! the data layer, part 8: what a def promises over data; calls -/
namespace DL
open PySem L2
/-- how a parameter is taken: shared; only looked at; changed in place -/
inductive Md where
  | S
  | B
  | M
  deriving DecidableEq
def mA : Md → V → List Addr
  | .M, .ref a => [a]
  | _, _ => []
def mAddrs : List Md → List V → List Addr
  | [], _ => []
  | _ :: _, [] => []
  | m :: ms, v :: vs => mA m v ++ mAddrs ms vs
inductive ArgsOk (K : Fg) (O : List Addr) (H : Hp) (Ms : List Addr) : List Md → List V → List D → Prop
  | nil : ArgsOk K O H Ms [] [] []
  | S {v : V} {d : D} {ms : List Md} {vs : List V} {ds : List D} : Rep K (hide O H) v d → ArgsOk K O H Ms ms vs ds → ArgsOk K O H Ms (.S :: ms) (v :: vs) (d :: ds)
  | B {v : V} {d : D} {ms : List Md} {vs : List V} {ds : List D} : (Rep K (hide O H) v d ∨ ∃ l o, v = .ref l ∧ H l = some o ∧ l ∉ Ms ∧ OwnOk K (hide O H) o d) → ArgsOk K O H Ms ms vs ds → ArgsOk K O H Ms (.B :: ms) (v :: vs) (d :: ds)
  | M {l : Addr} {o : HO} {d : D} {ms : List Md} {vs : List V} {ds : List D} : l ∈ O → H l = some o → OwnOk K (hide O H) o d → ArgsOk K O H Ms ms vs ds → ArgsOk K O H Ms (.M :: ms) (.ref l :: vs) (d :: ds)
inductive MsOk (K : Fg) (O : List Addr) (H : Hp) : List Md → List V → List D → Prop
  | nil : MsOk K O H [] [] []
  | S {v : V} {ms : List Md} {vs : List V} {ds : List D} : MsOk K O H ms vs ds → MsOk K O H (.S :: ms) (v :: vs) ds
  | B {v : V} {ms : List Md} {vs : List V} {ds : List D} : MsOk K O H ms vs ds → MsOk K O H (.B :: ms) (v :: vs) ds
  | M {l : Addr} {o : HO} {d : D} {ms : List Md} {vs : List V} {ds : List D} : H l = some o → OwnOk K (hide O H) o d → MsOk K O H ms vs ds → MsOk K O H (.M :: ms) (.ref l :: vs) (d :: ds)
structure PostOk (K : Fg) (O : List Addr) (H : Hp) (ms : List Md) (vs : List V) (H' : Hp) (O' : List Addr) : Prop where
  sub : ∀ a ∈ O, a ∈ O'
  new : ∀ a ∈ O', a ∈ O ∨ H a = none
  al : ∀ a ∈ O', H' a ≠ none
  fr : ∀ a o, H a = some o → a ∉ mAddrs ms vs → H' a = some o
/-- what a def promises: the arguments, what is wanted of the answer (is it a new object; the datum; what the changed parameters hold), of an error (its class, its fields) -/
abbrev EdT := Str → List (Str × D) → List D → Prop
/-- the dict of an exception that a callee lets out -/
def XdOk (K : Fg) (H H' : Hp) (d : Option Addr) (fds : List (Str × D)) : Prop := (d = none ∧ fds = []) ∨ ∃ dx fvs, d = some dx ∧ H dx = none ∧ H' dx = some (.xd fvs) ∧ fvs.map (·.1) = fds.map (·.1) ∧ Reps K (fun _ => none) (fvs.map (·.2)) (fds.map (·.2))
abbrev DSp := List D → (Bool → D → List D → Prop) → EdT → Prop
def ResOk (K : Fg) (H : Hp) (H' : Hp) (O' : List Addr) (v : V) : Bool → D → Prop
  | true, d => (∃ p o, v = .ref p ∧ p ∈ O' ∧ H p = none ∧ H' p = some o ∧ OwnOk K (hide O' H') o d) ∨ ∃ a ds p l v0 vs, d = .tup [a, .lst ds] ∧ v = .ref p ∧ H' p = some (.tup [v0, .ref l]) ∧ p ∉ O' ∧ l ∉ O' ∧ H' l = some (.lst vs) ∧ H l = none ∧ Rep K (hide O' H') v0 a ∧ Reps K (hide O' H') vs ds
  | false, d => Rep K (hide O' H') v d
def spD (K : Fg) (ms : List Md) (sd : DSp) : Sp := fun vs H Q E => ∃ (O : List Addr) (ds : List D) (Qd : Bool → D → List D → Prop) (Ed : EdT), ArgsOk K O H (mAddrs ms vs) ms vs ds ∧ (∀ a ∈ O, H a ≠ none) ∧ (mAddrs ms vs).Nodup ∧ sd ds Qd Ed ∧
  (∀ v H' O' b d ds', PostOk K O H ms vs H' O' → MsOk K O' H' ms vs ds' → ResOk K H H' O' v b d → Qd b d ds' → Q v H') ∧
  (∀ n c d H' O' fds ds', PostOk K O H ms vs H' O' → MsOk K O' H' ms vs ds' → XNm K n c → XdOk K H H' d fds → Ed n fds ds' → E (.ref c) d H')
theorem ArgsOk.len {K : Fg} {O : List Addr} {H : Hp} {Ms : List Addr} : ∀ {ms : List Md} {vs : List V} {ds : List D}, ArgsOk K O H Ms ms vs ds → vs.length = ms.length ∧ ds.length = ms.length
  | _, _, _, .nil => ⟨rfl, rfl⟩
  | _, _, _, .S _ t => ⟨by rw [List.length_cons, List.length_cons, t.len.1], by rw [List.length_cons, List.length_cons, t.len.2]⟩
  | _, _, _, .B _ t => ⟨by rw [List.length_cons, List.length_cons, t.len.1], by rw [List.length_cons, List.length_cons, t.len.2]⟩
  | _, _, _, .M _ _ _ t => ⟨by rw [List.length_cons, List.length_cons, t.len.1], by rw [List.length_cons, List.length_cons, t.len.2]⟩
/-! ### the callee's side -/
def sl0 : Md → D → Sl
  | .S, d => .sh d
  | .B, d => .bo d
  | .M, d => .io d
def env0 : List Md → List D → Env
  | [], _ => []
  | _ :: _, [] => []
  | m :: ms, d :: ds => sl0 m d :: env0 ms ds
def io1 : Md → Option Sl → List D
  | .M, some (.io d) => [d]
  | _, _ => []
def iosD : List Md → Env → List D
  | [], _ => []
  | m :: ms, Γ => io1 m Γ.head? ++ iosD ms Γ.tail
def mListA : Nat → List Md → List V → List (Nat × Addr)
  | _, [], _ => []
  | _, _ :: _, [] => []
  | i, m :: ms, v :: vs => (mA m v).map (fun a => (i, a)) ++ mListA (i + 1) ms vs
def bL (i : Nat) : Md → V → List (Nat × V)
  | .B, v => [(i, v)]
  | _, _ => []
def bListA : Nat → List Md → List V → List (Nat × V)
  | _, [], _ => []
  | _, _ :: _, [] => []
  | i, m :: ms, v :: vs => bL i m v ++ bListA (i + 1) ms vs
theorem mListA_addr : ∀ (ms : List Md) (vs : List V) (i j : Nat) (a : Addr), (j, a) ∈ mListA i ms vs → a ∈ mAddrs ms vs
  | [], _, _, _, _, h => by cases h
  | _ :: _, [], _, _, _, h => by cases h
  | m :: ms, v :: vs, i, j, a, h => by
    unfold mListA at h
    unfold mAddrs
    rcases List.mem_append.mp h with h | h
    · obtain ⟨b, hb, e⟩ := List.mem_map.mp h
      cases e
      exact List.mem_append_left _ hb
    · exact List.mem_append_right _ (mListA_addr ms vs (i + 1) j a h)
/-- slot by slot, at an entry -/
theorem args_at {K : Fg} {O : List Addr} {H : Hp} {Ms : List Addr} {ms : List Md} {vs : List V} {ds : List D} (A : ArgsOk K O H Ms ms vs ds) : ∀ (i k : Nat) (s : Sl), (env0 ms ds)[i]? = some s → ∃ v, vs[i]? = some v ∧
    ((∃ d, s = .sh d ∧ Rep K (hide O H) v d) ∨ (∃ d, s = .bo d ∧ (k + i, v) ∈ bListA k ms vs ∧ (Rep K (hide O H) v d ∨ ∃ l o, v = .ref l ∧ H l = some o ∧ l ∉ Ms ∧ OwnOk K (hide O H) o d)) ∨ ∃ d l o, s = .io d ∧ v = .ref l ∧ (k + i, l) ∈ mListA k ms vs ∧ l ∈ O ∧ H l = some o ∧ OwnOk K (hide O H) o d) := by
  induction A with
  | nil => intro i k s h; cases h
  | S hr t ih =>
    intro i k s h
    cases i with
    | zero => cases h; exact ⟨_, rfl, .inl ⟨_, rfl, hr⟩⟩
    | succ i =>
      obtain ⟨w, e, q⟩ := ih i (k + 1) s h
      refine ⟨w, e, ?_⟩
      have ek : k + (i + 1) = k + 1 + i := by omega
      rw [ek]
      rcases q with q | ⟨d, e1, q1, q2⟩ | ⟨d, l, o, e1, e2, q1, q2⟩
      · exact .inl q
      · exact .inr (.inl ⟨d, e1, List.mem_append_right _ q1, q2⟩)
      · exact .inr (.inr ⟨d, l, o, e1, e2, List.mem_append_right _ q1, q2⟩)
  | B hr t ih =>
    intro i k s h
    cases i with
    | zero => cases h; exact ⟨_, rfl, .inr (.inl ⟨_, rfl, List.mem_append_left _ (List.mem_singleton.mpr rfl), hr⟩)⟩
    | succ i =>
      obtain ⟨w, e, q⟩ := ih i (k + 1) s h
      refine ⟨w, e, ?_⟩
      have ek : k + (i + 1) = k + 1 + i := by omega
      rw [ek]
      rcases q with q | ⟨d, e1, q1, q2⟩ | ⟨d, l, o, e1, e2, q1, q2⟩
      · exact .inl q
      · exact .inr (.inl ⟨d, e1, List.mem_append_right _ q1, q2⟩)
      · exact .inr (.inr ⟨d, l, o, e1, e2, List.mem_append_right _ q1, q2⟩)
  | M h1 h2 h3 t ih =>
    intro i k s h
    cases i with
    | zero => cases h; exact ⟨_, rfl, .inr (.inr ⟨_, _, _, rfl, rfl, List.mem_append_left _ (List.mem_singleton.mpr rfl), h1, h2, h3⟩)⟩
    | succ i =>
      obtain ⟨w, e, q⟩ := ih i (k + 1) s h
      refine ⟨w, e, ?_⟩
      have ek : k + (i + 1) = k + 1 + i := by omega
      rw [ek]
      rcases q with q | ⟨d, e1, q1, q2⟩ | ⟨d, l, o, e1, e2, q1, q2⟩
      · exact .inl q
      · exact .inr (.inl ⟨d, e1, List.mem_append_right _ q1, q2⟩)
      · exact .inr (.inr ⟨d, l, o, e1, e2, List.mem_append_right _ q1, q2⟩)
theorem mA_S {v : V} : mA .S v = [] := by cases v <;> rfl
theorem mA_B {v : V} : mA .B v = [] := by cases v <;> rfl
theorem mList_at {K : Fg} {O : List Addr} {H : Hp} {Ms : List Addr} {ms : List Md} {vs : List V} {ds : List D} (A : ArgsOk K O H Ms ms vs ds) : ∀ (k : Nat) (q : Nat × Addr), q ∈ mListA k ms vs → ∃ i, q.1 = k + i ∧ vs[i]? = some (.ref q.2) ∧ ∃ d, (env0 ms ds)[i]? = some (.io d) := by
  induction A with
  | nil => intro k q h; cases h
  | S hr t ih =>
    intro k q h
    unfold mListA at h
    rw [mA_S] at h
    obtain ⟨i, e, e1, d, e2⟩ := ih (k + 1) q h
    exact ⟨i + 1, by omega, e1, d, e2⟩
  | B hr t ih =>
    intro k q h
    unfold mListA at h
    rw [mA_B] at h
    obtain ⟨i, e, e1, d, e2⟩ := ih (k + 1) q h
    exact ⟨i + 1, by omega, e1, d, e2⟩
  | M h1 h2 h3 t ih =>
    intro k q h
    unfold mListA at h
    rcases List.mem_append.mp h with h | h
    · have e : q = (k, _) := List.mem_singleton.mp h
      subst e
      exact ⟨0, rfl, rfl, _, rfl⟩
    · obtain ⟨i, e, e1, d, e2⟩ := ih (k + 1) q h
      exact ⟨i + 1, by omega, e1, d, e2⟩
theorem bList_at {K : Fg} {O : List Addr} {H : Hp} {Ms : List Addr} {ms : List Md} {vs : List V} {ds : List D} (A : ArgsOk K O H Ms ms vs ds) : ∀ (k : Nat) (q : Nat × V), q ∈ bListA k ms vs → ∃ i, q.1 = k + i ∧ vs[i]? = some q.2 ∧ ∃ d, (env0 ms ds)[i]? = some (.bo d) := by
  induction A with
  | nil => intro k q h; cases h
  | S hr t ih =>
    intro k q h
    obtain ⟨i, e, e1, d, e2⟩ := ih (k + 1) q h
    exact ⟨i + 1, by omega, e1, d, e2⟩
  | B hr t ih =>
    intro k q h
    unfold bListA at h
    rcases List.mem_append.mp h with h | h
    · have e : q = (k, _) := List.mem_singleton.mp h
      subst e
      exact ⟨0, rfl, rfl, _, rfl⟩
    · obtain ⟨i, e, e1, d, e2⟩ := ih (k + 1) q h
      exact ⟨i + 1, by omega, e1, d, e2⟩
  | M h1 h2 h3 t ih =>
    intro k q h
    obtain ⟨i, e, e1, d, e2⟩ := ih (k + 1) q h
    exact ⟨i + 1, by omega, e1, d, e2⟩
theorem mNodup : ∀ (ms : List Md) (vs : List V) (k i j : Nat) (a : Addr), (mAddrs ms vs).Nodup → (i, a) ∈ mListA k ms vs → (j, a) ∈ mListA k ms vs → i = j
  | [], _, _, _, _, _, _, h, _ => by cases h
  | _ :: _, [], _, _, _, _, _, h, _ => by cases h
  | m :: ms, v :: vs, k, i, j, a, n, h1, h2 => by
    unfold mAddrs at n
    obtain ⟨_, n2, n3⟩ := List.nodup_append.mp n
    unfold mListA at h1 h2
    have hd : ∀ {i : Nat}, (i, a) ∈ (mA m v).map (fun a => (k, a)) → i = k ∧ a ∈ mA m v := fun {i} h => by
      obtain ⟨b, hb, e⟩ := List.mem_map.mp h
      cases e
      exact ⟨rfl, hb⟩
    rcases List.mem_append.mp h1 with h1 | h1
    · rcases List.mem_append.mp h2 with h2 | h2
      · rw [(hd h1).1, (hd h2).1]
      · exact absurd rfl (n3 a (hd h1).2 a (mListA_addr _ _ _ _ _ h2))
    · rcases List.mem_append.mp h2 with h2 | h2
      · exact absurd rfl (n3 a (hd h2).2 a (mListA_addr _ _ _ _ _ h1))
      · exact mNodup ms vs (k + 1) i j a n2 h1 h2
def ctx0 (K : Fg) (O : List Addr) (H : Hp) (ms : List Md) (vs : List V) : Ctx := ⟨K, H, O, mListA 0 ms vs, bListA 0 ms vs, [], []⟩
def startD (N : List Str) (ms : List Md) (ds : List D) : Env := env0 ms ds ++ List.replicate (N.length - ds.length) .no
theorem env0_len {K : Fg} {O : List Addr} {H : Hp} {Ms : List Addr} {ms : List Md} {vs : List V} {ds : List D} (A : ArgsOk K O H Ms ms vs ds) : (env0 ms ds).length = ds.length := by
  induction A with
  | nil => rfl
  | S _ _ ih => unfold env0; rw [List.length_cons, List.length_cons, ih]
  | B _ _ ih => unfold env0; rw [List.length_cons, List.length_cons, ih]
  | M _ _ _ _ ih => unfold env0; rw [List.length_cons, List.length_cons, ih]
theorem relO_start {K : Fg} {O : List Addr} {H : Hp} {ms : List Md} {vs : List V} {ds : List D} {N : List Str} (A : ArgsOk K O H (mAddrs ms vs) ms vs ds) (al : ∀ a ∈ O, H a ≠ none) (nd : (mAddrs ms vs).Nodup) : RelO (ctx0 K O H ms vs) (startD N ms ds) O (L2.start N vs) H := by
  have el := env0_len A
  have vl := A.len
  have atG : ∀ {i : Nat} {s : Sl}, (startD N ms ds)[i]? = some s → s = .no ∨ (env0 ms ds)[i]? = some s := fun {i s} h => by
    unfold startD at h
    by_cases hi : i < (env0 ms ds).length
    · rw [List.getElem?_append_left hi] at h; exact .inr h
    · rw [List.getElem?_append_right (by omega), List.getElem?_replicate] at h
      split at h
      · cases h; exact .inl rfl
      · cases h
  have atS : ∀ {i : Nat} {v : V}, vs[i]? = some v → (L2.start N vs)[i]? = some (some v) := fun {i v} h => by
    have hi := (List.getElem?_eq_some_iff.mp h).1
    unfold L2.start
    rw [List.getElem?_append_left (by simpa using hi), List.getElem?_map, h]; rfl
  have inG : ∀ {i : Nat} {s : Sl}, (env0 ms ds)[i]? = some s → (startD N ms ds)[i]? = some s := fun {i s} h => by
    have hi := (List.getElem?_eq_some_iff.mp h).1
    unfold startD
    rw [List.getElem?_append_left hi]; exact h
  have mutA : ∀ {i : Nat} {a : Addr}, MutAt (startD N ms ds) (L2.start N vs) i a → (i, a) ∈ mListA 0 ms vs := fun {i a} ⟨⟨d, h⟩, h2⟩ => by
    have h' : (startD N ms ds)[i]? = some (.io d) := by
      rcases h with h | h
      · rcases atG h with z | z
        · cases z
        · obtain ⟨v, _, q⟩ := args_at A _ 0 _ z
          rcases q with ⟨_, q, _⟩ | ⟨_, q, _⟩ | ⟨_, _, _, q, _⟩ <;> cases q
      · exact h
    rcases atG h' with z | z
    · cases z
    · obtain ⟨v, hv, q⟩ := args_at A _ 0 _ z
      rcases q with ⟨_, q, _⟩ | ⟨_, q, _⟩ | ⟨_, l, _, _, e, q, _⟩
      · cases q
      · cases q
      · subst e
        rw [atS hv] at h2
        cases h2
        simpa using q
  refine ⟨fun i s h => ?_, fun i j a n h1 h2 => n (mNodup _ _ 0 _ _ _ nd (mutA h1) (mutA h2)), fun a o h _ => h, fun q hq => ?_, fun q hq => ?_, fun a h => h, al, fun a h => .inl h, al, fun q hq => absurd hq (by simp [ctx0]), fun q hq => absurd hq (by simp [ctx0]), ?_⟩
  · rcases atG h with z | z
    · subst z; trivial
    · obtain ⟨v, hv, q⟩ := args_at A _ 0 _ z
      rcases q with ⟨d, e, q⟩ | ⟨d, e, q1, q⟩ | ⟨d, l, o, e, e2, q1, q2, q3, q4⟩
      · subst e; exact ⟨v, atS hv, q⟩
      · subst e
        refine ⟨v, atS hv, by rw [Nat.zero_add] at q1; exact q1, ?_⟩
        rcases q with q | ⟨l, o, e3, q3, q4, q5⟩
        · exact .inl q
        · exact .inr ⟨l, o, e3, q3, fun p hp z => q4 (z ▸ mListA_addr _ _ 0 p.1 _ hp), q5⟩
      · subst e e2; exact ⟨l, o, atS hv, by rw [Nat.zero_add] at q1; exact q1, q2, q3, q4⟩
  · obtain ⟨i, e, e1, d, e2⟩ := mList_at A 0 q (show q ∈ mListA 0 ms vs from hq)
    rw [show q.1 = i by omega]
    exact ⟨atS e1, d, inG e2⟩
  · obtain ⟨i, e, e1, d, e2⟩ := bList_at A 0 q (show q ∈ bListA 0 ms vs from hq)
    rw [show q.1 = i by omega]
    exact ⟨atS e1, d, inG e2⟩
  · unfold startD L2.start
    rw [List.length_append, List.length_append, List.length_replicate, List.length_replicate, List.length_map, el, vl.1, vl.2]
/-- what the changed parameters hold at the end -/
theorem ms_end {K : Fg} {O O' : List Addr} {H H' : Hp} {Ms : List Addr} {ms : List Md} {vs : List V} {ds : List D} (A : ArgsOk K O H Ms ms vs ds) : ∀ (Γ : Env) (k : Nat),
    (∀ i l, (k + i, l) ∈ mListA k ms vs → ∃ d o, Γ[i]? = some (.io d) ∧ H' l = some o ∧ OwnOk K (hide O' H') o d) → MsOk K O' H' ms vs (iosD ms Γ) := by
  induction A with
  | nil => intro Γ k _; exact .nil
  | S hr t ih =>
    intro Γ k h
    unfold iosD
    refine .S (ih Γ.tail (k + 1) fun i l hm => ?_)
    obtain ⟨d, o, e, q⟩ := h (i + 1) l (by rw [show k + (i + 1) = k + 1 + i by omega]; exact List.mem_append_right _ hm)
    exact ⟨d, o, by rw [List.getElem?_tail]; exact e, q⟩
  | B hr t ih =>
    intro Γ k h
    unfold iosD
    refine .B (ih Γ.tail (k + 1) fun i l hm => ?_)
    obtain ⟨d, o, e, q⟩ := h (i + 1) l (by rw [show k + (i + 1) = k + 1 + i by omega]; exact List.mem_append_right _ hm)
    exact ⟨d, o, by rw [List.getElem?_tail]; exact e, q⟩
  | M h1 h2 h3 t ih =>
    intro Γ k h
    obtain ⟨d, o, e, q1, q2⟩ := h 0 _ (List.mem_append_left _ (List.mem_singleton.mpr rfl))
    unfold iosD
    rw [List.head?_eq_getElem?, e]
    refine .M q1 q2 (ih Γ.tail (k + 1) fun i l hm => ?_)
    obtain ⟨d, o, e, q⟩ := h (i + 1) l (by rw [show k + (i + 1) = k + 1 + i by omega]; exact List.mem_append_right _ hm)
    exact ⟨d, o, by rw [List.getElem?_tail]; exact e, q⟩
/-- the ends of a def's body over data -/
def endsD (ms : List Md) (Qd : Bool → D → List D → Prop) : DEnds where
  nx := fun Γ => Qd false .non (iosD ms Γ)
  rt := fun r Γ => match r with
    | .val d => Qd false d (iosD ms Γ)
    | .fr d => Qd true d (iosD ms Γ)
    | .pl i => ∃ d, Γ[i]? = some (.ow d) ∧ Qd true d (iosD ms Γ)
    | .np a ds => Qd true (.tup [a, .lst ds]) (iosD ms Γ)
theorem post_of {K : Fg} {O O' : List Addr} {H H' : Hp} {ms : List Md} {vs : List V} {ds : List D} {Γ : Env} {σ : St} (A : ArgsOk K O H (mAddrs ms vs) ms vs ds) (R : RelO (ctx0 K O H ms vs) Γ O' σ H') : PostOk K O H ms vs H' O' ∧ MsOk K O' H' ms vs (iosD ms Γ) := by
  refine ⟨⟨R.oo, R.ol, R.al, fun a o h n => R.fr a o h fun p hp z => n (by rw [← z]; exact mListA_addr _ _ 0 p.1 _ hp)⟩, ms_end A Γ 0 fun i l hm => ?_⟩
  rw [Nat.zero_add] at hm
  obtain ⟨h1, d, h2⟩ := R.mm (i, l) hm
  obtain ⟨l', o, h3, _, _, h4, h5⟩ := R.sl i _ h2
  rw [show σ[i]? = some (some (.ref l)) from h1] at h3
  cases h3
  exact ⟨d, o, h2, h4, h5⟩
end DL
/-! the data layer, part 9: defs and their calls -/
namespace DL
open PySem PySem.Spec PyProof.Rows L2
/-- a def keeps its promise wherever nothing is being shown (no repr is under way) -/
structure FnG (P : Program) (w : World) (K : Fg) (mg : Str → Option Value) (base : Heap) (k : Nat) (f : Addr) (fd : FuncData) (ps : List Str) (sp : Sp) : Prop where
  len : ∀ vs H Q E, sp vs H Q E → vs.length = ps.length
  go : ∀ (A : Around), A.guards = some [] → Room k A → ∀ (outer : List PySem.Env) (s : Shared) (H : Hp) (args : Args) (us : List Value) (vs : List V) (Q : VK) (E : XK),
    Env0 P w K mg base A outer s H → BindsTo s fd args (ps.zip us) → Vals vs us → sp vs H Q E → codeAny (model P w) A (.call (.ref f) args) (CR (L2.CX P w) outer P w H s Q E) s
section
variable {P : Program} {w : World} {K : Fg} {mg : Str → Option Value} {base : Heap} {k : Nat} {f : Addr} {fd : FuncData} {ps : List Str} {sp : Sp}
theorem FnG.mono {j : Nat} (F : FnG P w K mg base j f fd ps sp) (h : j ≤ k) : FnG P w K mg base k f fd ps sp := ⟨F.len, fun A g hr => F.go A g (hr.mono h)⟩
/-- a def of the text, by its body -/
theorem fn_g {x qual : Str} {st : Stmt} {N : List Str} (F : Fun K x qual st f fd) (S : FnScope N ps (defScope st)) (len : ∀ vs H Q E, sp vs H Q E → vs.length = ps.length)
    (body : ∀ (cdv : Value) (A : Around) (outer : List PySem.Env) (s : Shared) (H : Hp) (vs : List V) (Q : VK) (E : XK), (A.deeper (envOfC qual (defScope st) s.heap.objs.size f cdv)).guards = some [] → Room k (A.deeper (envOfC qual (defScope st) s.heap.objs.size f cdv)) → sp vs H Q E →
      ∃ t, PSs (cxOf (L2.CX P w) P w K mg base N qual (defScope st) f cdv A outer s H E) (defBody st) t ∧ t { nx := fun _ H' => Q .non H', rt := Q } (L2.start N vs) H) : FnG P w K mg base (k + 1) f fd ps sp := by
  obtain ⟨oc, od, kV, doc, pm, an, cdv, ct, osl, rfl, lk, hcd⟩ := F.ex
  refine ⟨len, fun A hg hr outer s H args us vs Q E e0 hb r hsp => ?_⟩
  have hl := len _ _ _ _ hsp
  have stay : ∀ b o, base.get? b = some o → s.heap.get? b = some o := fun b o e => (e0.bs b o e).1
  have KX : K.In s.heap := e0.mod.kin.keeps stay
  have kinds : ∀ y ∈ ps.zip us, (defScope st).names.lookup y.1 = some .local ∨ ((defScope st).names.lookup y.1 = some .cell ∧ ((cellsFrom (s.heap.objs.size + 1) (defScope st).names []).lookup y.1).isSome = true) := by
    rintro ⟨n, v⟩ hy
    rcases S.par n (List.of_mem_zip hy).1 with q | q
    · exact Or.inl q
    · exact Or.inr ⟨q, PySem.W.cellsFrom_some _ _ _ (Or.inl q)⟩
  refine codeAny_call_function hr.depth (KX _ _ lk) rfl S.co S.gen rfl (PySem.W.codeRec_of KX hcd) (hb _ _ _ _ (wpAny_newFunctionEnv_cells S.kind kinds ?_))
  intro env he s1 x
  subst he
  refine ⟨(e0.mod.nolimit.keeps stay).keeps x.toInCall.keep, codeAny_func ?_⟩
  obtain ⟨t, ht, hq⟩ := body cdv A outer s H vs Q E hg (hr.deeper _) hsp
  refine wpAny_mono (ht.run [] s1 _ H _ (inv_start S hr.hd e0 hl r x) hq) ?_ fun _ _ h => h
  intro fl s' hs
  cases fl with
  | ret u =>
    obtain ⟨v, σ', H', J, rv, q⟩ := hs
    exact ⟨v, H', J.os, J.bare, J.base, J.hok, rv, q⟩
  | next =>
    obtain ⟨σ', H', J, q⟩ := hs
    exact ⟨V.non, H', J.os, J.bare, J.base, J.hok, rfl, q⟩
  | brk => exact hs.elim fun _ h => h.elim fun _ h => h.2.elim
  | cont => exact hs.elim fun _ h => h.elim fun _ h => h.2.elim
end
/-! ### a def over data -/
section
variable {P : Program} {w : World} {K : Fg} {mg : Str → Option Value} {base : Heap} {k : Nat} {f : Addr} {fd : FuncData} {ps : List Str}
theorem spD_len {ms : List Md} {sd : DSp} (hl : ms.length = ps.length) : ∀ vs H Q E, spD K ms sd vs H Q E → vs.length = ps.length := fun vs H Q E ⟨O, ds, Qd, Ed, A, _⟩ => by rw [A.len.1, hl]
/-- the link at a def's end -/
theorem link_end {ms : List Md} {vs : List V} {ds : List D} {O : List Addr} {H : Hp} {Q : VK} {Qd : Bool → D → List D → Prop} (A : ArgsOk K O H (mAddrs ms vs) ms vs ds)
    (k : ∀ v H' O' b d ds', PostOk K O H ms vs H' O' → MsOk K O' H' ms vs ds' → ResOk K H H' O' v b d → Qd b d ds' → Q v H') : Link (ctx0 K O H ms vs) { nx := fun _ H' => Q .non H', rt := Q } (endsD ms Qd) where
  nx := fun Γ O' σ H' R h => by
    obtain ⟨p, m⟩ := post_of A R
    exact k .non H' O' false .non _ p m .non h
  rt := fun r Γ O' σ H' v hr h => by
    cases r with
    | val d =>
      obtain ⟨p, m⟩ := post_of A hr.1
      exact k v H' O' false d _ p m hr.2 h
    | fr d =>
      obtain ⟨_, q, o, rfl, h2, h3, h4, h5, R⟩ := hr
      obtain ⟨p, m⟩ := post_of A R
      exact k _ H' (q :: O') true d _ p m (.inl ⟨q, o, rfl, List.mem_cons_self, h4, h2, h5⟩) h
    | np a ds =>
      obtain ⟨R, q, l, v0, vs, rfl, h2, h3, h4, h5, h6, h7, h8⟩ := hr
      obtain ⟨p, m⟩ := post_of A R
      exact k _ H' O' true _ _ p m (.inr ⟨a, ds, q, l, v0, vs, rfl, rfl, h2, h3, h4, h5, h6, h7, h8⟩) h
    | pl i =>
      obtain ⟨d, hd, h⟩ := h
      obtain ⟨p, m⟩ := post_of A hr.1
      obtain ⟨l, o, h1, h2, h3, h4, h5⟩ := hr.1.sl i _ hd
      have e : σ[i]? = some (some v) := hr.2
      rw [h1] at e
      cases e
      exact k _ H' O' true d _ p m (.inl ⟨l, o, rfl, h2, h3, h4, h5⟩) h
  bk := fun _ _ _ _ _ h => h.elim
  ct := fun _ _ _ _ _ h => h.elim
/-- THE RULE for a def that lets no exception out -/
theorem fn_d {x qual : Str} {st : Stmt} {N : List Str} {ms : List Md} {sd : DSp} (F : Fun K x qual st f fd) (S : FnScope N ps (defScope st)) (hl : ms.length = ps.length)
    (body : ∀ (cdv : Value) (A : Around) (outer : List PySem.Env) (s : Shared) (H0 : Hp) (vs : List V) (E : XK) (O : List Addr) (H : Hp), (A.deeper (envOfC qual (defScope st) s.heap.objs.size f cdv)).guards = some [] → Room k (A.deeper (envOfC qual (defScope st) s.heap.objs.size f cdv)) →
      ∃ t m, DSs (cxOf (L2.CX P w) P w K mg base N qual (defScope st) f cdv A outer s H0 E).nox (ctx0 K O H ms vs) (defBody st) t m ∧ ∀ ds Qd Ed, ds.length = ms.length → sd ds Qd Ed → m (endsD ms Qd) (startD N ms ds)) : FnG P w K mg base (k + 1) f fd ps (spD K ms sd) :=
  fn_g F S (spD_len hl) fun cdv A outer s H vs Q E hg hr hsp => by
    obtain ⟨O, ds, Qd, Ed, AO, al, nd, hsd, post, _⟩ := hsp
    obtain ⟨t, m, d, hm⟩ := body cdv A outer s H vs E O H hg hr
    exact ⟨t, d.pss.nox, d.sim _ _ _ _ _ _ (relO_start AO al nd) (hm ds Qd Ed AO.len.2 hsd) (link_end AO post)⟩
end
/-! ### a call -/
section
variable {X : Cx} {k : Nat} {f : Addr} {fd : FuncData} {ps : List Str} {sp : Sp} {dvs : List V} {ds : List Value} {x : Str} {p pos : Pos} {e : Expr} {es : List Expr} {t : TA} {E : XK}
theorem run_g {pins : List (Addr × Obj)} {σ : L2.St} {H : Hp} {s : Shared} {Q : VK} {us : List Value} {vs : List V} (F : FnG X.prog X.w X.K X.mg X.base k f fd ps sp) (hg : X.A.guards = some []) (hr : Room k X.A) (hb : Binds X.K fd ps ds) (hd : Vals dvs ds) (hx : Passes (L2.CX X.prog X.w) X E)
    (I : Inv X pins σ H s) (r : Vals vs us) (h : sp (vs ++ dvs) H Q E) : wpAny (model X.prog X.w) X.A (call (.ref f) us) (EP X pins σ Q) X.xe s := by
  have r2 : Vals (vs ++ dvs) (us ++ ds) := r.append hd
  refine wpAny_call (codeAny_mono (F.go X.A hg hr X.stack s H ⟨us, []⟩ (us ++ ds) (vs ++ dvs) Q E I.env0 (hb s us I.kIn (by rw [← r2.length]; exact F.len _ _ _ _ h)) r2 h) ?_)
  intro r s' hq
  match r, hq with
  | .error e, hq => exact hx pins σ H s e s' I hq
  | .ok (.ret u), hq => exact I.after hq
  | .ok .next, hq => exact False.elim hq
  | .ok .brk, hq => exact False.elim hq
  | .ok .cont, hq => exact False.elim hq
theorem pe_g (F : FnG X.prog X.w X.K X.mg X.base k f fd ps sp) (hg : X.A.guards = some []) (hr : Room k X.A) (hgl : Gl X x) (hm : X.mg x = some (.ref f)) (hk : PySem.W.keepIn X.K (.ref f) = true) (hb : Binds X.K fd ps ds) (hd : Vals dvs ds) (hx : Passes (L2.CX X.prog X.w) X E)
    (ha : PA X (e :: es) t) (hdb : (x == ("__debug__" : Str)) = false := by decide) (he : starEach (e :: es) X.env = (false, eval e X.env) :: starEach es X.env := by rfl) (hpl : (backTo pos (starEach es X.env)).any (·.1) = false := by rfl) : PE X (.Call (.Name x p) (e :: es) [] pos) (tCall sp dvs E t) :=
  ⟨fun pins s σ H Q I h => wpAny_Call_Name_kw (ld_glob I hgl hm (PySem.W.callWith_K (h₀ := X.base) I.ok.mod.kin hk (thn (ha.run pos pins s σ H _ I h) fun us s1 ⟨vs, H1, I1, r, q⟩ => ⟨I1.kIn, run_g F hg hr hb hd hx I1 r q⟩) he hpl) hdb)⟩
end
/-- the arguments over data -/
def arg1 (Γ : Env) : Md → Res → Option D
  | .S, r => dat r
  | .B, r => rd Γ r
  | .M, .pl i => match Γ[i]? with
    | some (.ow d) => some d
    | some (.io d) => some d
    | _ => none
  | .M, _ => none
def argsD (Γ : Env) : List Md → List Res → Option (List D)
  | [], [] => some []
  | m :: ms, r :: rs => match arg1 Γ m r, argsD Γ ms rs with
    | some d, some ds => some (d :: ds)
    | _, _ => none
  | _, _ => none
def mPl1 : Md → Res → List Nat
  | .M, .pl i => [i]
  | _, _ => []
def mPls : List Md → List Res → List Nat
  | m :: ms, r :: rs => mPl1 m r ++ mPls ms rs
  | _, _ => []
def bPl1 : Md → Res → List Nat
  | .B, .pl i => [i]
  | _, _ => []
def bPls : List Md → List Res → List Nat
  | m :: ms, r :: rs => bPl1 m r ++ bPls ms rs
  | _, _ => []
def apartB (ms : List Md) (rs : List Res) : Bool := decide (mPls ms rs).Nodup && (bPls ms rs).all fun i => decide (i ∉ mPls ms rs)
/-- the changed places hold what the callee left there -/
def putsD : List Nat → List D → Env → Option Env
  | [], [], Γ => some Γ
  | i :: is, d :: ds, Γ => match setC Γ i d with
    | some Γ1 => putsD is ds Γ1
    | none => none
  | _, _, _ => none
def noX : EdT := fun _ _ _ => False
/-- a new object; or a pair with a new list -/
def frOf : D → Res
  | .tup [a, .lst ds] => .np a ds
  | d => .fr d
def mCall (ms : List Md) (sd : DSp) (ma : DTA) : DTE := fun Γ Q => ma Γ fun rs Γ1 => ∃ ds, argsD Γ1 ms rs = some ds ∧ apartB ms rs = true ∧
  sd ds (fun b d ds' => ∃ Γ2, putsD (mPls ms rs) ds' Γ1 = some Γ2 ∧ Q (if b = true then frOf d else .val d) Γ2) noX
section
variable {C : Ctx} {Γ : Env} {O O' : List Addr} {σ : L2.St} {H H' : Hp}
/-- fewer owned addresses -/
theorem RelO.shrink (R : RelO C Γ O' σ H) (hs : ∀ a ∈ O, a ∈ O') (hm : ∀ i a, MutAt Γ σ i a → a ∈ O) (hu : ∀ q ∈ C.U, q.1 ∈ O) (h0 : ∀ a ∈ C.O0, a ∈ O) : RelO C Γ O σ H ∧ Same (hide O' H) (hide O H) := by
  have e : Same (hide O' H) (hide O H) := hide_sub hs
  refine ⟨⟨fun i s es => ?_, R.ds, R.fr, R.mm, R.bb, h0, fun a ha => R.al a (hs a ha), fun a ha => R.ol a (hs a ha), R.o0, fun q hq => (R.tt q hq).mono e, fun q hq => ⟨(R.uu q hq).1, hu q hq, (R.uu q hq).2.2⟩, R.len⟩, e⟩
  have q := R.sl i s es
  cases s with
  | no => trivial
  | sh d => obtain ⟨v, h1, h2⟩ := q; exact ⟨v, h1, h2.mono e⟩
  | ow d => obtain ⟨l, u, h1, h2, h3, h4, h5⟩ := q; exact ⟨l, u, h1, hm i l ⟨⟨d, .inl es⟩, h1⟩, h3, h4, h5.mono e⟩
  | io d => obtain ⟨l, u, h1, h2, h3, h4, h5⟩ := q; exact ⟨l, u, h1, h2, hm i l ⟨⟨d, .inr es⟩, h1⟩, h4, h5.mono e⟩
  | bo d =>
    obtain ⟨v, h1, h2, h3⟩ := q
    refine ⟨v, h1, h2, ?_⟩
    rcases h3 with h3 | ⟨l, u, h3, h4, h5, h6⟩
    · exact .inl (h3.mono e)
    · exact .inr ⟨l, u, h3, h4, h5, h6.mono e⟩
/-- the places that a call changes: slot and address -/
inductive Chg (σ : L2.St) : List Nat → List Addr → Prop
  | nil : Chg σ [] []
  | cons {i : Nat} {a : Addr} {is : List Nat} {as : List Addr} : σ[i]? = some (some (.ref a)) → Chg σ is as → Chg σ (i :: is) (a :: as)
inductive Now (K : Fg) (O : List Addr) (H : Hp) : List Addr → List D → Prop
  | nil : Now K O H [] []
  | cons {a : Addr} {o : HO} {d : D} {as : List Addr} {ds : List D} : H a = some o → OwnOk K (hide O H) o d → Now K O H as ds → Now K O H (a :: as) (d :: ds)
theorem Chg.at : ∀ {is : List Nat} {as : List Addr} {a : Addr}, Chg σ is as → a ∈ as → ∃ i ∈ is, σ[i]? = some (some (.ref a))
  | _, _, _, .nil, h => absurd h (by simp)
  | _, _, _, .cons e t, h => by
    rcases List.mem_cons.mp h with z | z
    · subst z; exact ⟨_, List.mem_cons_self, e⟩
    · obtain ⟨i, hi, q⟩ := t.at z
      exact ⟨i, List.mem_cons_of_mem _ hi, q⟩
/-- kinds of slots stay -/
theorem setC_kind {Γ' : Env} {i : Nat} {d : D} (h : setC Γ i d = some Γ') : (∃ d0, (Γ[i]? = some (.ow d0) ∧ Γ' = Γ.set i (.ow d)) ∨ (Γ[i]? = some (.io d0) ∧ Γ' = Γ.set i (.io d))) := by
  unfold setC at h
  split at h
  · rename_i d0 e; cases h; exact ⟨d0, .inl ⟨e, rfl⟩⟩
  · rename_i d0 e; cases h; exact ⟨d0, .inr ⟨e, rfl⟩⟩
  · cases h
/-- behind a call: the named slots hold the new data, at the new heap with new owned addresses -/
structure Aft (C : Ctx) (Γ : Env) (O : List Addr) (σ : L2.St) (H : Hp) (as : List Addr) (O' : List Addr) (H' : Hp) : Prop where
  sub : ∀ a ∈ O, a ∈ O'
  new : ∀ a ∈ O', a ∈ O ∨ H a = none
  al : ∀ a ∈ O', H' a ≠ none
  fr : ∀ a o, H a = some o → a ∉ as → H' a = some o
theorem aft_same {as : List Addr} (Af : Aft C Γ O σ H as O' H') (ha : ∀ a ∈ as, a ∈ O) : Same (hide O H) (hide O' H') := fun b u e => by
  obtain ⟨n, e⟩ := hide_some e
  have hb : b ∉ O' := fun z => by
    rcases Af.new b z with q | q
    · exact n q
    · rw [q] at e; cases e
  rw [hide_out hb]
  exact Af.fr b u e fun z => n (ha b z)
theorem setC_len {Γ' : Env} {i : Nat} {d : D} (h : setC Γ i d = some Γ') : Γ'.length = Γ.length := by
  obtain ⟨d0, ⟨_, e⟩ | ⟨_, e⟩⟩ := setC_kind h <;> rw [e, List.length_set]
/-- what putsD does, slot by slot -/
theorem putsD_at : ∀ {is : List Nat} {ds : List D} {Γ Γ' : Env}, putsD is ds Γ = some Γ' → is.Nodup → Γ'.length = Γ.length ∧ (∀ j, j ∉ is → Γ'[j]? = Γ[j]?) ∧
    ∀ (as : List Addr), as.length = is.length → ∀ (R : Nat → Addr → D → Prop), (∀ (n i : Nat) (a : Addr) (d : D), is[n]? = some i → as[n]? = some a → ds[n]? = some d → R i a d) → ∀ (n i : Nat) (a : Addr), is[n]? = some i → as[n]? = some a → ∃ d d0, R i a d ∧ ((Γ[i]? = some (.ow d0) ∧ Γ'[i]? = some (.ow d)) ∨ (Γ[i]? = some (.io d0) ∧ Γ'[i]? = some (.io d)))
  | [], [], Γ, Γ', h, _ => by
    cases h
    exact ⟨rfl, fun _ _ => rfl, fun as hl R hR n i a h1 => by cases h1⟩
  | [], _ :: _, _, _, h, _ => by cases h
  | _ :: _, [], _, _, h, _ => by cases h
  | i :: is, d :: ds, Γ, Γ', h, nd => by
    unfold putsD at h
    split at h
    · rename_i Γ1 e1
      obtain ⟨n1, n2⟩ := List.nodup_cons.mp nd
      obtain ⟨l1, l2, l3⟩ := putsD_at h n2
      have hil : i < Γ.length := by
        obtain ⟨d0, ⟨e, _⟩ | ⟨e, _⟩⟩ := setC_kind e1 <;> exact (List.getElem?_eq_some_iff.mp e).1
      refine ⟨by rw [l1, setC_len e1], fun j hj => ?_, fun as hl R hR n j a h1 h2 => ?_⟩
      · rw [l2 j fun z => hj (List.mem_cons_of_mem _ z)]
        have hne : i ≠ j := fun z => hj (by simp [z])
        obtain ⟨d0, ⟨_, e⟩ | ⟨_, e⟩⟩ := setC_kind e1 <;> rw [e, get_set_ne hne]
      · cases as with
        | nil => cases h2
        | cons a' as =>
          cases n with
          | zero =>
            cases h1; cases h2
            refine ⟨d, ?_⟩
            obtain ⟨d0, ⟨e, e'⟩ | ⟨e, e'⟩⟩ := setC_kind e1
            · exact ⟨d0, hR 0 _ _ _ rfl rfl rfl, .inl ⟨e, by rw [l2 i n1, e']; exact List.getElem?_set_self hil⟩⟩
            · exact ⟨d0, hR 0 _ _ _ rfl rfl rfl, .inr ⟨e, by rw [l2 i n1, e']; exact List.getElem?_set_self hil⟩⟩
          | succ n =>
            obtain ⟨d2, d0, r, q⟩ := l3 as (by simpa using hl) R (fun n i a d h1 h2 h3 => hR (n + 1) i a d h1 h2 h3) n j a h1 h2
            have hne : i ≠ j := fun z => n1 (by rw [z]; exact List.mem_of_getElem? h1)
            refine ⟨d2, d0, r, ?_⟩
            have e1' : Γ1[j]? = Γ[j]? := by
              obtain ⟨d0, ⟨_, e⟩ | ⟨_, e⟩⟩ := setC_kind e1 <;> rw [e, get_set_ne hne]
            rw [e1'] at q
            exact q
    · cases h
theorem Chg.len : ∀ {is : List Nat} {as : List Addr}, Chg σ is as → as.length = is.length
  | _, _, .nil => rfl
  | _, _, .cons _ t => by rw [List.length_cons, List.length_cons, t.len]
theorem Chg.get : ∀ {is : List Nat} {as : List Addr} {n i : Nat} {a : Addr}, Chg σ is as → is[n]? = some i → as[n]? = some a → σ[i]? = some (some (.ref a))
  | _, _, _, _, _, .nil, h, _ => by cases h
  | _, _, 0, _, _, .cons e t, h1, h2 => by cases h1; cases h2; exact e
  | _, _, n + 1, _, _, .cons e t, h1, h2 => t.get (n := n) h1 h2
theorem Now.get {K : Fg} : ∀ {as : List Addr} {ds : List D} {n : Nat} {a : Addr} {d : D}, Now K O H as ds → as[n]? = some a → ds[n]? = some d → ∃ o, H a = some o ∧ OwnOk K (hide O H) o d
  | _, _, _, _, _, .nil, h, _ => by cases h
  | _, _, 0, _, _, .cons e q t, h1, h2 => by cases h1; cases h2; exact ⟨_, e, q⟩
  | _, _, n + 1, _, _, .cons e q t, h1, h2 => t.get (n := n) h1 h2
theorem rel_after {Γ' : Env} {is : List Nat} {as : List Addr} {ds : List D} (R : RelO C Γ O σ H) (hc : Chg σ is as) (nd : is.Nodup) (hmu : ∀ i ∈ is, ∃ d, Γ[i]? = some (.ow d) ∨ Γ[i]? = some (.io d)) (hp : putsD is ds Γ = some Γ') (Af : Aft C Γ O σ H as O' H') (hn : Now C.K O' H' as ds) :
    RelO C Γ' O' σ H' ∧ Same (hide O H) (hide O' H') := by
  obtain ⟨l1, l2, l3⟩ := putsD_at hp nd
  have mutI : ∀ i ∈ is, ∀ a, σ[i]? = some (some (.ref a)) → MutAt Γ σ i a := fun i hi a e => ⟨hmu i hi, e⟩
  have asM : ∀ a ∈ as, ∃ i ∈ is, MutAt Γ σ i a := fun a ha => by
    obtain ⟨i, hi, e⟩ := hc.at ha
    exact ⟨i, hi, mutI i hi a e⟩
  have asO : ∀ a ∈ as, a ∈ O := fun a ha => by
    obtain ⟨i, _, m⟩ := asM a ha
    exact R.mutIn m
  have e := aft_same Af asO
  have sp := l3 as hc.len (fun i a d => ∃ o, H' a = some o ∧ OwnOk C.K (hide O' H') o d) fun n i a d h1 h2 h3 => hn.get h2 h3
  have inIs : ∀ j ∈ is, ∃ n a, is[n]? = some j ∧ as[n]? = some a ∧ σ[j]? = some (some (.ref a)) := fun j hj => by
    obtain ⟨n, hn', e⟩ := List.mem_iff_getElem.mp hj
    have hla : n < as.length := by rw [hc.len]; exact hn'
    have h1 : is[n]? = some j := by rw [List.getElem?_eq_getElem hn', e]
    have h2 : as[n]? = some as[n] := List.getElem?_eq_getElem hla
    exact ⟨n, as[n], h1, h2, hc.get h1 h2⟩
  have kind : ∀ j a, MutAt Γ' σ j a → MutAt Γ σ j a := fun j a ⟨⟨d, h⟩, h2⟩ => by
    by_cases hj : j ∈ is
    · exact mutI j hj a h2
    · rw [l2 j hj] at h; exact ⟨⟨d, h⟩, h2⟩
  have notAs : ∀ j a, j ∉ is → MutAt Γ σ j a → a ∉ as := fun j a hj m z => by
    obtain ⟨i, hi, m2⟩ := asM a z
    exact R.ds i j a (fun z => hj (z ▸ hi)) m2 m
  refine ⟨⟨fun j s h => ?_, fun i j a n h1 h2 => R.ds i j a n (kind _ _ h1) (kind _ _ h2), fun a o h n => ?_, fun q hq => ?_, fun q hq => ?_, fun a ha => Af.sub a (R.oo a ha), Af.al, fun a ha => ?_, R.o0, fun q hq => (R.tt q hq).mono e, fun q hq => ⟨?_, Af.sub _ (R.uu q hq).2.1, fun i hi => (R.uu q hq).2.2 i (kind _ _ hi)⟩, by rw [l1]; exact R.len⟩, e⟩
  · by_cases hj : j ∈ is
    · obtain ⟨n, a, h1, h2, h3⟩ := inIs j hj
      obtain ⟨d, d0, ⟨o, q1, q2⟩, ⟨q3, q4⟩ | ⟨q3, q4⟩⟩ := sp n j a h1 h2
      · rw [q4] at h; cases h
        obtain ⟨l, o', g1, g2, g3, _⟩ := R.sl j _ q3
        rw [h3] at g1; cases g1
        exact ⟨a, o, h3, Af.sub _ g2, g3, q1, q2⟩
      · rw [q4] at h; cases h
        obtain ⟨l, o', g1, g2, g3, _⟩ := R.sl j _ q3
        rw [h3] at g1; cases g1
        exact ⟨a, o, h3, g2, Af.sub _ g3, q1, q2⟩
    · rw [l2 j hj] at h
      have q := R.sl j s h
      cases s with
      | no => trivial
      | sh d => obtain ⟨v, h1, h2⟩ := q; exact ⟨v, h1, h2.mono e⟩
      | ow d => obtain ⟨l, u, h1, h2, h3, h4, h5⟩ := q; exact ⟨l, u, h1, Af.sub _ h2, h3, Af.fr _ _ h4 (notAs j l hj ⟨⟨d, .inl h⟩, h1⟩), h5.mono e⟩
      | io d => obtain ⟨l, u, h1, h2, h3, h4, h5⟩ := q; exact ⟨l, u, h1, h2, Af.sub _ h3, Af.fr _ _ h4 (notAs j l hj ⟨⟨d, .inr h⟩, h1⟩), h5.mono e⟩
      | bo d =>
        obtain ⟨v, h1, h2, h3⟩ := q
        refine ⟨v, h1, h2, ?_⟩
        rcases h3 with h3 | ⟨l, u, h3, h4, h5, h6⟩
        · exact .inl (h3.mono e)
        · exact .inr ⟨l, u, h3, h4, h5, h6.mono e⟩
  · refine Af.fr a o (R.fr a o h n) fun z => ?_
    obtain ⟨i, hi, ⟨⟨d, m | m⟩, m2⟩⟩ := asM a z
    · obtain ⟨l, o', g1, g2, g3, _⟩ := R.sl i _ m
      rw [m2] at g1; cases g1
      rw [h] at g3; cases g3
    · obtain ⟨l, o', g1, g2, _⟩ := R.sl i _ m
      rw [m2] at g1; cases g1
      exact n _ g2 rfl
  · obtain ⟨h1, d, h2⟩ := R.mm q hq
    refine ⟨h1, ?_⟩
    by_cases hj : q.1 ∈ is
    · obtain ⟨n, a, g1, g2, g3⟩ := inIs _ hj
      obtain ⟨d', d0, _, ⟨q3, q4⟩ | ⟨q3, q4⟩⟩ := sp n _ a g1 g2
      · rw [h2] at q3; cases q3
      · exact ⟨d', q4⟩
    · exact ⟨d, by rw [l2 _ hj]; exact h2⟩
  · obtain ⟨h1, d, h2⟩ := R.bb q hq
    refine ⟨h1, d, ?_⟩
    by_cases hj : q.1 ∈ is
    · obtain ⟨d', h | h⟩ := hmu _ hj <;> rw [h2] at h <;> cases h
    · rw [l2 _ hj]; exact h2
  · rcases Af.new a ha with z | z
    · exact R.ol a z
    · exact .inr (R.fresh0 z)
  · refine Af.fr _ _ (R.uu q hq).1 fun z => ?_
    obtain ⟨i, hi, m⟩ := asM _ z
    exact (R.uu q hq).2.2 i m
end
end DL
/-! the data layer, part 10: a call over data; the end of a law -/
namespace DL
open PySem PySem.Spec PyProof.Rows L2
section
variable {C : Ctx} {Γ : Env} {O O' : List Addr} {σ : L2.St} {H H' : Hp}
theorem chg_of (R : RelO C Γ O σ H) : ∀ {ms : List Md} {rs : List Res} {vs : List V} {ds : List D}, Pends C.K O σ H vs rs → argsD Γ ms rs = some ds → Chg σ (mPls ms rs) (mAddrs ms vs) ∧ ∀ i ∈ mPls ms rs, ∃ d, Γ[i]? = some (.ow d) ∨ Γ[i]? = some (.io d)
  | [], [], _, _, .nil, _ => ⟨.nil, fun _ h => absurd h (by simp [mPls])⟩
  | [], _ :: _, _, _, .cons _ _, h => by cases h
  | _ :: _, [], _, _, .nil, h => by cases h
  | m :: ms, r :: rs, _, ds, .cons (v := v) (vs := vs) hp ht, h => by
    unfold argsD at h
    split at h
    · rename_i d ds' e1 e2
      cases h
      obtain ⟨c, k⟩ := chg_of R ht e2
      cases m with
      | S =>
        unfold mPls mAddrs
        rw [mA_S]
        cases r <;> exact ⟨c, k⟩
      | B =>
        unfold mPls mAddrs
        rw [mA_B]
        cases r <;> exact ⟨c, k⟩
      | M =>
        cases r with
        | val d => cases e1
        | fr d => cases e1
        | np a ds => cases e1
        | pl i =>
          have hp : σ[i]? = some (some v) := hp
          have e1 : (match Γ[i]? with | some (.ow d) => some d | some (.io d) => some d | _ => none) = some d := e1
          have km : ∃ d, Γ[i]? = some (.ow d) ∨ Γ[i]? = some (.io d) := by
            split at e1
            · rename_i d' q; exact ⟨d', .inl q⟩
            · rename_i d' q; exact ⟨d', .inr q⟩
            · cases e1
          obtain ⟨d', q⟩ := km
          have hv : ∃ a, v = .ref a := by
            rcases q with q | q
            · obtain ⟨l, o, g, _⟩ := R.sl i _ q
              rw [hp] at g; cases g; exact ⟨l, rfl⟩
            · obtain ⟨l, o, g, _⟩ := R.sl i _ q
              rw [hp] at g; cases g; exact ⟨l, rfl⟩
          obtain ⟨a, rfl⟩ := hv
          refine ⟨.cons hp c, fun j hj => ?_⟩
          have hj : j ∈ i :: mPls ms rs := hj
          rcases List.mem_cons.mp hj with z | z
          · subst z; exact ⟨d', q⟩
          · exact k j z
    · cases h
theorem args_of (R : RelO C Γ O σ H) {P : List Nat} {Ms : List Addr} (hc : Chg σ P Ms) (hmu : ∀ i ∈ P, ∃ d, Γ[i]? = some (.ow d) ∨ Γ[i]? = some (.io d)) : ∀ {ms : List Md} {rs : List Res} {vs : List V} {ds : List D}, Pends C.K O σ H vs rs → argsD Γ ms rs = some ds → (∀ i ∈ bPls ms rs, i ∉ P) → ArgsOk C.K O H Ms ms vs ds
  | [], [], _, _, .nil, h, _ => by cases h; exact .nil
  | [], _ :: _, _, _, .cons _ _, h, _ => by cases h
  | _ :: _, [], _, _, .nil, h, _ => by cases h
  | m :: ms, r :: rs, _, ds, .cons (v := v) (vs := vs) hp ht, h, hb => by
    unfold argsD at h
    split at h
    · rename_i d ds' e1 e2
      cases h
      have t := args_of R hc hmu ht e2 fun i hi => hb i (List.mem_append_right _ hi)
      cases m with
      | S => exact .S (hp.dat e1) t
      | B =>
        refine .B ?_ t
        cases r with
        | val d' => cases e1; exact .inl hp
        | fr d' => cases e1; exact .inl hp
        | np a ds => cases e1; exact .inl hp
        | pl i =>
          have hp : σ[i]? = some (some v) := hp
          have e1 : cont Γ[i]? = some d := e1
          have hi : i ∉ P := hb i (List.mem_append_left _ (List.mem_singleton.mpr rfl))
          cases q : Γ[i]? with
          | none => rw [q] at e1; cases e1
          | some s =>
            rw [q] at e1
            have k := R.sl i s q
            cases s with
            | no => cases e1
            | sh d' => cases e1
            | ow d' =>
              cases e1
              obtain ⟨l, o, h1, h2, h3, h4, h5⟩ := k
              rw [hp] at h1; cases h1
              refine .inr ⟨l, o, rfl, h4, fun z => ?_, h5⟩
              obtain ⟨j, hj, e⟩ := hc.at z
              exact R.ds i j l (fun z => hi (z ▸ hj)) ⟨⟨_, .inl q⟩, hp⟩ ⟨hmu j hj, e⟩
            | io d' =>
              cases e1
              obtain ⟨l, o, h1, h2, h3, h4, h5⟩ := k
              rw [hp] at h1; cases h1
              refine .inr ⟨l, o, rfl, h4, fun z => ?_, h5⟩
              obtain ⟨j, hj, e⟩ := hc.at z
              exact R.ds i j l (fun z => hi (z ▸ hj)) ⟨⟨_, .inr q⟩, hp⟩ ⟨hmu j hj, e⟩
            | bo d' =>
              cases e1
              obtain ⟨v', h1, h2, h3⟩ := k
              rw [hp] at h1; cases h1
              rcases h3 with h3 | ⟨l, o, h3, h4, h5, h6⟩
              · exact .inl h3
              · refine .inr ⟨l, o, h3, R.fr l o h4 h5, fun z => ?_, h6⟩
                obtain ⟨j, hj, e⟩ := hc.at z
                obtain ⟨dj, g | g⟩ := hmu j hj
                · obtain ⟨l2, o2, g1, g2, g3, _⟩ := R.sl j _ g
                  rw [e] at g1; cases g1
                  rw [h4] at g3; cases g3
                · obtain ⟨l2, o2, g1, g2, _⟩ := R.sl j _ g
                  rw [e] at g1; cases g1
                  exact h5 _ g2 rfl
      | M =>
        cases r with
        | val d => cases e1
        | fr d => cases e1
        | np a ds => cases e1
        | pl i =>
          have hp : σ[i]? = some (some v) := hp
          have e1 : (match Γ[i]? with | some (.ow d) => some d | some (.io d) => some d | _ => none) = some d := e1
          split at e1
          · rename_i d' q
            cases e1
            obtain ⟨l, o, h1, h2, h3, h4, h5⟩ := R.sl i _ q
            rw [hp] at h1; cases h1
            exact .M h2 h4 h5 t
          · rename_i d' q
            cases e1
            obtain ⟨l, o, h1, h2, h3, h4, h5⟩ := R.sl i _ q
            rw [hp] at h1; cases h1
            exact .M h3 h4 h5 t
          · cases e1
    · cases h
theorem chg_nodup (R : RelO C Γ O σ H) : ∀ {is : List Nat} {as : List Addr}, Chg σ is as → (∀ i ∈ is, ∃ d, Γ[i]? = some (.ow d) ∨ Γ[i]? = some (.io d)) → is.Nodup → as.Nodup
  | _, _, .nil, _, _ => List.nodup_nil
  | _, _, .cons (i := i) (a := a) e t, hmu, nd => by
    obtain ⟨n1, n2⟩ := List.nodup_cons.mp nd
    refine List.nodup_cons.mpr ⟨fun z => ?_, chg_nodup R t (fun i hi => hmu i (List.mem_cons_of_mem _ hi)) n2⟩
    obtain ⟨j, hj, ej⟩ := t.at z
    exact R.ds i j a (fun z => n1 (z ▸ hj)) ⟨hmu i List.mem_cons_self, e⟩ ⟨hmu j (List.mem_cons_of_mem _ hj), ej⟩
theorem now_of {K : Fg} {ms : List Md} {vs : List V} {ds : List D} (h : MsOk K O H ms vs ds) : Now K O H (mAddrs ms vs) ds := by
  induction h with
  | nil => exact .nil
  | S _ ih => unfold mAddrs; rw [mA_S]; exact ih
  | B _ ih => unfold mAddrs; rw [mA_B]; exact ih
  | M h1 h2 _ ih => exact .cons h1 h2 ih
theorem mutAt_put {Γ' : Env} {is : List Nat} {ds : List D} (hp : putsD is ds Γ = some Γ') (nd : is.Nodup) (hmu : ∀ i ∈ is, ∃ d, Γ[i]? = some (.ow d) ∨ Γ[i]? = some (.io d)) {j : Nat} {a : Addr} (h : MutAt Γ' σ j a) : MutAt Γ σ j a := by
  obtain ⟨_, l2, _⟩ := putsD_at hp nd
  by_cases hj : j ∈ is
  · exact ⟨hmu j hj, h.2⟩
  · obtain ⟨⟨d, h1⟩, h2⟩ := h
    rw [l2 j hj] at h1
    exact ⟨⟨d, h1⟩, h2⟩
/-- a call, its arguments being there -/
theorem call_core {Γ1 : Env} {H1 : Hp} {ms : List Md} {sd : DSp} {rs : List Res} {vs : List V} {ds : List D} {Qd : QE} {Q : VK} {E : XK} {Ed : EdT} (R1 : RelO C Γ1 O σ H1) (p1 : Pends C.K O σ H1 vs rs) (hd : argsD Γ1 ms rs = some ds) (hap : apartB ms rs = true)
    (hsd : sd ds (fun b d ds' => ∃ Γ2, putsD (mPls ms rs) ds' Γ1 = some Γ2 ∧ Qd (if b = true then frOf d else .val d) Γ2) Ed) (k : ∀ r Γ' v H', ROk C Γ' O σ H' v r → SE O H1 H' v r → Qd r Γ' → Q v H')
    (kx : ∀ n c d H' O' fds ds', (∀ Γ2, putsD (mPls ms rs) ds' Γ1 = some Γ2 → RelO C Γ2 O' σ H' ∧ Same (hide O H1) (hide O' H')) → XNm C.K n c → XdOk C.K H1 H' d fds → Ed n fds ds' → E (.ref c) d H') : spD C.K ms sd vs H1 Q E := by
  unfold apartB at hap
  rw [Bool.and_eq_true] at hap
  have nd : (mPls ms rs).Nodup := of_decide_eq_true hap.1
  have hb : ∀ i ∈ bPls ms rs, i ∉ mPls ms rs := fun i hi => of_decide_eq_true (List.all_eq_true.mp hap.2 i hi)
  obtain ⟨hc, hmu⟩ := chg_of R1 p1 hd
  have hargs := args_of R1 hc hmu p1 hd hb
  have ndA := chg_nodup R1 hc hmu nd
  refine ⟨O, ds, _, Ed, hargs, R1.al, ndA, hsd, fun v H' O' b d ds' post hms hres hq => ?_, fun n c d H' O' fds ds' post hms hn hx hE => ?_⟩
  · obtain ⟨Γ2, hput, hq⟩ := hq
    have Af : Aft C Γ1 O σ H1 (mAddrs ms vs) O' H' := ⟨post.sub, post.new, post.al, post.fr⟩
    obtain ⟨R2, e2⟩ := rel_after R1 hc nd hmu hput Af (now_of hms)
    have mO : ∀ i a, MutAt Γ2 σ i a → a ∈ O := fun i a m => R1.mutIn (mutAt_put hput nd hmu m)
    have uO : ∀ q ∈ C.U, q.1 ∈ O := fun q hq => (R1.uu q hq).2.1
    obtain ⟨R3, e3⟩ := R2.shrink (O := O) post.sub mO uO R1.oo
    have eA : Same (hide O H1) (hide O H') := L2.Same.trans e2 e3
    cases b with
    | true =>
      rcases hres with hres | ⟨a, ds, p, l, v0, vs, rfl, rfl, h2, h3, h4, h5, h6, h7, h8⟩
      rotate_left
      · refine k (.np a ds) Γ2 _ H' ⟨R3, p, l, v0, vs, rfl, h2, fun z => h3 (post.sub p z), fun z => h4 (post.sub l z), h5, R1.fresh0 h6, h7.mono e3, h8.mono e3⟩ ⟨eA, fun _ _ e => nomatch e⟩ hq
      obtain ⟨p, o, rfl, hpO', hp0, hp, ho⟩ := hres
      have hfr : frOf d = .fr d := by cases ho <;> rfl
      rw [if_pos rfl, hfr] at hq
      have hpO : p ∉ O := R1.notin hp0
      obtain ⟨R4, e4⟩ := R2.shrink (O := p :: O) (fun a ha => (List.mem_cons.mp ha).elim (fun z => z ▸ hpO') (post.sub a)) (fun i a m => List.mem_cons_of_mem _ (mO i a m)) (fun q hq => List.mem_cons_of_mem _ (uO q hq)) fun a ha => List.mem_cons_of_mem _ (R1.oo a ha)
      exact k (.fr d) Γ2 _ H' ⟨R3, p, o, rfl, hp, hpO, R1.fresh0 hp0, ho.mono e4, R4⟩ (.fr (L2.Same.trans e2 e4)) hq
    | false => exact k (.val d) Γ2 v H' ⟨R3, Rep.mono e3 hres⟩ (.val eA) hq
  · refine kx n c d H' O' fds ds' (fun Γ2 hput => ?_) hn hx hE
    have Af : Aft C Γ1 O σ H1 (mAddrs ms vs) O' H' := ⟨post.sub, post.new, post.al, post.fr⟩
    exact rel_after R1 hc nd hmu hput Af (now_of hms)
theorem sim_call {t : TA} {ma : DTA} {ms : List Md} {sd : DSp} {E : XK} (ha : SimA C t ma) : SimE C (tCall (spD C.K ms sd) [] E t) (mCall ms sd ma) := fun Γ O σ H Qd Q R h k => by
  refine ha Γ O σ H _ _ R h fun rs Γ1 vs H1 R1 p1 e1 q1 => ?_
  obtain ⟨ds, hd, hap, hsd⟩ := q1
  show spD C.K ms sd (vs ++ []) H1 Q E
  rw [List.append_nil]
  exact call_core R1 p1 hd hap hsd (fun r Γ' v H' r1 se q => k r Γ' v H' r1 (.after e1 se) q) fun _ _ _ _ _ _ _ _ _ _ z => z.elim
end
/-- f(..), f a def that lets no exception out for these arguments -/
theorem de_call {X : Cx} {C : Ctx} {k : Nat} {f : Addr} {fd : FuncData} {ps : List Str} {ms : List Md} {sd : DSp} {x : Str} {p pos : Pos} {e : Expr} {es : List Expr} {t : TA} {ma : DTA} (F : FnG X.prog X.w X.K X.mg X.base k f fd ps (spD X.K ms sd)) (hg : X.A.guards = some []) (hr : Room k X.A) (hgl : Gl X x) (hm : X.mg x = some (.ref f)) (hk : PySem.W.keepIn X.K (.ref f) = true) (hb : Binds X.K fd ps [])
    (ha : DA X C (e :: es) t ma) {K0 : Fg} (hK0 : X.K = K0 := by rfl) (hK : K0 = C.K := by rfl) (hdb : (x == ("__debug__" : Str)) = false := by decide) (he : starEach (e :: es) X.env = (false, eval e X.env) :: starEach es X.env := by rfl) (hpl : (backTo pos (starEach es X.env)).any (·.1) = false := by rfl) :
    DE X C (.Call (.Name x p) (e :: es) [] pos) (tCall (spD K0 ms sd) [] E0 t) (mCall ms sd ma) := by
  subst hK0
  exact (⟨pe_g F hg hr hgl hm hk hb .nil passL ha.pa hdb he hpl, by rw [hK]; exact sim_call ha.sim⟩)
/-! ### the end of a law -/
/-- the script as data -/
theorem only_rep {K : Fg} {H : Hp} {a : Addr} {ns : List Int} (h : SqL K H a (ns.map V.int)) : Rep K H (.ref a) (.scr (ns.map D.int)) := .scr h (Reps.of_ints ns)
theorem law_go {P : Program} {w : World} {K : Fg} {mg mb : Str → Option Value} {k : Nat} {fa a : Addr} {fd : FuncData} {x : Str} {sp : Sp} {s₁ : Shared} {vs : List Value} {ns : List Int}
    (KX : K.In s₁.heap) (hns : s₁.heap.Ns mainGlobals mg) (hb : s₁.heap.Ns builtinsNs mb) (hbb : ∀ x : Str, x ≠ "__name__" → mb x = bootBuiltins x) (hlim : s₁.heap.NoLimit) (hg : s₁.gens = #[])
    (ha : s₁.heap.get? a = some { cls := .type "list", data := .seq vs.toArray }) (hi : IntsAre vs ns) (hl : ns.length ≤ sizeLine) (hr : Room k callerA)
    (F : ∀ base : Heap, K.In base → base.Ns mainGlobals mg → FnG P w K mg base k fa fd [x] sp) (hbind : ∀ (s : Shared) (u : Value), BindsTo s fd ⟨[u], []⟩ [(x, u)])
    (hsp : ∀ H : Hp, Only H → SqL K H a (ns.map V.int) → sp [.ref a] H (fun v _ => v = .bl true) E0) :
    codeAny (model P w) callerA (.call (.ref fa) ⟨[.ref a], []⟩) (fun r s' => r = .ok (.ret (.bool true)) ∧ OldK s₁.heap s'.heap ∧ s'.os = s₁.os ∧ AllBare s'.gens) s₁ := by
  -- the layer's own end asks a def that keeps its promise everywhere; here one fixed surrounding is enough
  have one : ∀ base : Heap, K.In base → base.Ns mainGlobals mg → FnOk P w K mg base (fun o H s E u s' => False) 0 fa fd [x] (fun _ _ _ _ => False) := fun base _ _ => ⟨fun _ _ _ _ h => h.elim, fun _ _ _ _ _ _ _ _ _ _ _ _ _ h => h.elim⟩
  have rv := vals_ints hi
  have core : ∀ H : Hp, Only H → SqL K H a (ns.map V.int) → HOk P w H s₁.heap → (∀ b, H b ≠ none → b = a) → (H a ≠ none → K.lookup a = none) →
      codeAny (model P w) callerA (.call (.ref fa) ⟨[.ref a], []⟩) (fun r s' => r = .ok (.ret (.bool true)) ∧ OldK s₁.heap s'.heap ∧ s'.os = s₁.os ∧ AllBare s'.gens) s₁ := by
    intro H hO hS hok hA hK
    have none_or : ∀ b, H b = none ∨ b = a := fun b => by
      cases q : H b with
      | none => exact .inl rfl
      | some u => exact .inr (hA b (by rw [q]; simp))
    have free : ∀ {b : Addr} {o : Obj}, s₁.heap.get? b = some o → (∀ es ep, o.data = .dict es ep → True) → (b ≠ a) → H b = none := fun {b o} _ _ n => (none_or b).resolve_right n
    have isD : ∀ {b : Addr} {o : Obj} {es : Array DictEntry} {ep : Nat}, s₁.heap.get? b = some o → o.data = .dict es ep → b ≠ a := fun {b o es ep} e d z => by
      rw [z, ha] at e
      cases e
      cases d
    have nsK : ∀ {b : Addr} {m : Str → Option Value}, s₁.heap.Ns b m → (hidT s₁.heap H).Ns b m := fun {b m} h => by
      obtain ⟨o, es, ep, e, d, r⟩ := h
      exact ⟨o, es, ep, hidT_get e ((none_or b).resolve_right (isD e d)), d, r⟩
    have hKb : K.In (hidT s₁.heap H) := fun b o e => hidT_get (KX b o e) (by
      rcases none_or b with z | z
      · exact z
      · subst z
        cases q : H b with
        | none => rfl
        | some u => rw [hK (by rw [q]; simp)] at e; cases e)
    have hM : Mod K mg (hidT s₁.heap H) := ⟨hKb, nsK hns, ⟨mb, nsK hb, hbb⟩, hlim.elim fun mc h => ⟨mc, nsK h.1, h.2⟩⟩
    have e0 : Env0 P w K mg (hidT s₁.heap H) callerA [] s₁ H := ⟨rfl, hM, fun b o e => of_hidT e, Nat.le_of_eq (hidT_size _ _), trivial, fun b hb => absurd hb (by simp [frs]), hok, .of_eq hg⟩
    refine codeAny_mono ((F _ hKb (nsK hns)).go callerA rfl hr [] s₁ H ⟨[.ref a], []⟩ [.ref a] [.ref a] _ _ e0 (hbind s₁ (.ref a)) (.cons rfl .nil) (hsp H hO hS)) ?_
    intro r s' h
    match r, h with
    | .error e, h =>
      obtain ⟨_, _, _, _, _, _, _, _, _, _, _, _, z⟩ := (show L2.CX P w [] H s₁ E0 e s' from h)
      exact z.elim
    | .ok .next, h => exact False.elim h
    | .ok .brk, h => exact False.elim h
    | .ok .cont, h => exact False.elim h
    | .ok (.ret u), h =>
      obtain ⟨v, H', os, bare, un, hok', r', q⟩ := h
      have q' : v = .bl true := q
      subst q'
      obtain rfl : u = Value.bool true := r'
      refine ⟨rfl, OldK.of_keep fun b o e => ?_, os, bare⟩
      rcases hO b with z | ⟨ob, xs, z⟩
      · exact un.keep b o e z (by simp [frs]) (by simp)
      · obtain ⟨e1, _⟩ := hok b _ z
        obtain ⟨e2, _⟩ := hok' b _ (un.frzs b ob _ z)
        rw [e] at e1
        cases e1
        exact e2
  cases hk : K.lookup a with
  | some o =>
    have e := KX a o hk
    rw [ha] at e
    cases e
    exact core (fun _ => none) (fun _ => .inl rfl) (.inr ⟨_, vs.toArray, _, hk, rfl, rfl, rfl, by rw [List.size_toArray, hi.length]; exact hl, by simpa using rv⟩) (fun b u z => by cases z) (fun b z => absurd rfl z) fun z => absurd rfl z
  | none =>
    refine core (fun b => if b = a then some (.frz { cls := .type "list", data := .seq vs.toArray } (.lst (ns.map V.int))) else none) (fun b => ?_) (.inl (.inr ⟨_, if_pos rfl⟩)) (fun b u z => ?_) (fun b z => ?_) fun _ => hk
    · by_cases hb : b = a
      · exact .inr ⟨_, _, if_pos hb⟩
      · exact .inl (if_neg hb)
    · by_cases hb : b = a
      · cases (if_pos hb).symm.trans z
        subst hb
        exact ⟨ha, by rw [List.length_map]; exact hl, vs, _, rv, ha⟩
      · cases (if_neg hb).symm.trans z
    · by_cases hb : b = a
      · exact hb
      · exact absurd (if_neg hb) z
/-- what the law's own def promises -/
def lawSp (sd : DSp) : Prop := ∀ ns : List Int, ns.length ≤ 63 → sd [.scr (ns.map D.int)] (fun _ d _ => d = .bl true) noX
theorem walk_g {l : PySem.W.OpenLaw} {n k : Nat} {q : Program} {loose : List Str} {XP : (Str → Option Value) → Heap → Prop} {YP : World → Heap → Prop} {d : DefRec} {K : Params → Fg} {sd : DSp} {x : Str}
    (hn : l.most = some n) (hn2 : n ≤ sizeLine) (hdf : d.params.defaults = []) (hr : Room k callerA)
    (hY : ∀ (w : World) (h : Heap), YP w h → (K w.params).In h)
    (F : ∀ (w : World) (mg : Str → Option Value) (fa : Addr) (h : Heap), (K w.params).In h → h.Ns mainGlobals mg → mg d.name = some (.ref fa) →
      ∃ fd : FuncData, (∀ (s : Shared) (u : Value), BindsTo s fd ⟨[u], []⟩ [(x, u)]) ∧
        ∀ base : Heap, (K w.params).In base → base.Ns mainGlobals mg → FnG l.prog w (K w.params) mg base k fa fd [x] (spD (K w.params) [.S] sd))
    (hsd : ∀ ns : List Int, ns.length ≤ n → sd [.scr (ns.map D.int)] (fun _ d _ => d = .bl true) noX) :
    PySem.W.WalkO q loose XP YP l.row.toRowW d [] (fun f vs => PySem.call f vs) := by
  refine Att.attach_call hn hdf fun w s₀ s₁ mg mb fa o pm cd doc a vs ns G Y ho hd hcd hmg hobj hints hlen hg => ?_
  have KX := hY w _ Y
  obtain ⟨fd, hb, hF⟩ := F w mg fa _ KX G.T.g hmg
  refine law_go KX G.T.g G.T.b G.T.builtins G.T.nolimit hg hobj hints (Nat.le_trans hlen hn2) hr hF hb fun H hO hS => ?_
  refine ⟨[], [.scr (ns.map D.int)], _, noX, .S ?_ .nil, fun a h => absurd h (by simp), ?_, hsd ns hlen, fun v H' O' b d ds' _ _ hres hq => ?_, fun _ _ _ _ _ _ _ _ _ _ _ z => z.elim⟩
  · have e : hide [] H = H := by
      funext b
      exact hide_out (by simp)
    rw [e]
    exact only_rep hS
  · show (mA .S (.ref a) ++ mAddrs [] []).Nodup
    exact List.nodup_nil
  · have hq : d = .bl true := hq
    subst hq
    cases b with
    | true =>
      rcases hres with ⟨_, _, _, _, _, _, h⟩ | ⟨_, _, _, _, _, _, h, _⟩ <;> cases h
    | false =>
      have h : Rep _ _ v (.bl true) := hres
      cases h
      rfl
end DL
/-! the data layer, part 11: methods of lists, assignments of several values -/
namespace DL
open PySem PySem.Spec PyProof.Rows L2
/-! ### methods of an own list -/
/-- the content of a place that may be changed -/
def mcont : Option Sl → Option D
  | some (.ow d) => some d
  | some (.io d) => some d
  | _ => none
/-- o.m(..) that changes the place: f of the content and the arguments: the new content, the answer -/
def mMut (f : D → List D → (D → Res → Prop) → Prop) (mo : DTE) (ma : DTA) : DTE := fun Γ Q => mo Γ fun ro Γ1 => ∃ i, ro = .pl i ∧ (∃ ds, cont Γ1[i]? = some (.lst ds)) ∧ ma Γ1 fun rs Γ2 => ∃ c ds, mcont Γ2[i]? = some c ∧ dats rs = some ds ∧ f c ds fun c' z => ∃ Γ3, setC Γ2 i c' = some Γ3 ∧ Q z Γ3
def appendD : D → List D → (D → Res → Prop) → Prop
  | .lst xs, [y], Q => xs.length < 100000 ∧ Q (.lst (xs ++ [y])) (.val .non)
  | _, _, _ => False
def insertD : D → List D → (D → Res → Prop) → Prop
  | .lst xs, [.int i, y], Q => (xs.length < 100000 ∧ 0 ≤ i ∧ i < 2 ^ 63) ∧ Q (.lst (xs.take i.toNat ++ [y] ++ xs.drop i.toNat)) (.val .non)
  | _, _, _ => False
def popD : D → List D → (D → Res → Prop) → Prop
  | .lst xs, [], Q => ∃ y, xs[xs.length - 1]? = some y ∧ Q (.lst xs.dropLast) (.val y)
  | .lst xs, [.int i], Q => (-(2 ^ 63) ≤ i ∧ i < 2 ^ 63) ∧ ∃ k y, seqIndex? i xs.length = some k ∧ xs[k]? = some y ∧ Q (.lst (xs.eraseIdx k)) (.val y)
  | _, _, _ => False
def reverseD : D → List D → (D → Res → Prop) → Prop
  | .lst xs, [], Q => Q (.lst xs.reverse) (.val .non)
  | _, _, _ => False
def clearD : D → List D → (D → Res → Prop) → Prop
  | .lst xs, [], Q => Q (.lst []) (.val .non)
  | _, _, _ => False
/-- a change by values -/
def SimMt (K : Fg) (r : V → List V → Hp → VK → Prop) (f : D → List D → (D → Res → Prop) → Prop) : Prop := ∀ (O : List Addr) (H : Hp) (l : Addr) (o : HO) (c : D) (vs : List V) (ds : List D) (Qd : D → Res → Prop) (Q : VK), H l = some o → OwnOk K (hide O H) o c → Reps K (hide O H) vs ds → f c ds Qd →
  (∀ o' c' v d, OwnOk K (hide O H) o' c' → Rep K (hide O H) v d → Qd c' (.val d) → Q v (upd H l o')) → r (.ref l) vs H Q
section
variable {K : Fg} {C : Ctx} {X : Cx}
theorem Reps.one {H : Hp} {vs : List V} {d : D} (h : Reps K H vs [d]) : ∃ v, vs = [v] ∧ Rep K H v d := by
  cases h with | cons h t => cases t; exact ⟨_, rfl, h⟩
theorem Reps.two {H : Hp} {vs : List V} {d e : D} (h : Reps K H vs [d, e]) : ∃ v w, vs = [v, w] ∧ Rep K H v d ∧ Rep K H w e := by
  cases h with | cons h t => cases t with | cons h' t => cases t; exact ⟨_, _, rfl, h, h'⟩
theorem smt_append : SimMt K rAppend appendD := fun O H l o c vs ds Qd Q hl ho hr q k => by
  unfold appendD at q
  split at q
  · cases ho with
    | lst rr =>
      obtain ⟨v, rfl, rv⟩ := hr.one
      exact ⟨l, _, v, rfl, rfl, hl, by rw [rr.length]; exact Nat.lt_of_lt_of_le q.1 (by decide), k _ _ _ _ (.lst (rr.append (.cons rv .nil))) .non q.2⟩
  · exact q.elim
def uPop : V → List V → Hp → VK → Prop := fun x vs H Q => rPop x vs H Q ∨ rPopAt x vs H Q
theorem smt_pop : SimMt K uPop popD := fun O H l o c vs ds Qd Q hl ho hr q k => by
  unfold popD at q
  split at q
  · cases ho with
    | lst rr =>
      cases hr
      obtain ⟨y, hy, q⟩ := q
      obtain ⟨v, hv, rv⟩ := rr.get hy
      exact .inl ⟨l, _, v, rfl, rfl, hl, by rw [rr.length]; exact hv, k _ _ _ _ (.lst rr.dropLast) rv q⟩
  · cases ho with
    | lst rr =>
      obtain ⟨v, rfl, rv⟩ := hr.one
      cases rv
      obtain ⟨hb, n, y, h1, h2, q⟩ := q
      obtain ⟨v, hv, rv⟩ := rr.get h2
      exact .inr ⟨l, _, _, n, v, rfl, rfl, hl, hb.1, hb.2, by rw [rr.length]; exact h1, hv, k _ _ _ _ (.lst (rr.eraseIdx _)) rv q⟩
  · exact q.elim
theorem mcont_of {Γ : Env} {i : Nat} {c : D} (h : mcont Γ[i]? = some c) : Γ[i]? = some (.ow c) ∨ Γ[i]? = some (.io c) := by
  unfold mcont at h
  split at h
  · rename_i d e; cases h; exact .inl e
  · rename_i d e; cases h; exact .inr e
  · cases h
theorem sim_mut {to : TE} {t : TA} {mo : DTE} {ma : DTA} {r : V → List V → Hp → VK → Prop} {f : D → List D → (D → Res → Prop) → Prop} (ho : SimE C to mo) (ha : SimA C t ma) (hr : SimMt C.K r f) : SimE C (tBM C.K "list" r to t) (mMut f mo ma) := fun Γ O σ H Qd Q R h k => by
  refine ho Γ O σ H _ _ R h fun ro Γ1 x H1 R1 e1 q1 => ?_
  obtain ⟨i, rfl, ⟨ds0, hc0⟩, q1⟩ := q1
  obtain ⟨a, vs0, rfl, hl0, _⟩ := (Pend.b2 (r := .pl i) R1.rel R1.2 hc0).lst
  refine ⟨.inl ⟨rfl, _, SqL.of hl0⟩, ?_⟩
  refine ha Γ1 O σ H1 _ _ R1.rel q1 fun rs Γ2 vs H2 R2 p2 e2 q2 => ?_
  obtain ⟨c, ds, hc, hd, q⟩ := q2
  have hs : σ[i]? = some (some (.ref a)) := R1.2
  have hm := mcont_of hc
  have pl : ∃ o, H2 a = some o ∧ OwnOk C.K (hide O H2) o c := by
    rcases hm with g | g
    · obtain ⟨l, o, h1, _, _, h4, h5⟩ := R2.sl i _ g
      rw [hs] at h1; cases h1; exact ⟨o, h4, h5⟩
    · obtain ⟨l, o, h1, _, _, h4, h5⟩ := R2.sl i _ g
      rw [hs] at h1; cases h1; exact ⟨o, h4, h5⟩
  obtain ⟨o, hl, hb⟩ := pl
  refine hr O H2 a o c vs ds _ Q hl hb (dats_ok p2 hd) q fun o' c' v d ho' hv hq => ?_
  obtain ⟨Γ3, hset, hq⟩ := hq
  obtain ⟨R3, e3⟩ := set_relO R2 hset hs ho'
  exact k (.val d) Γ3 v _ ⟨R3, hv.mono e3⟩ (.val (L2.Same.trans e1.1 (L2.Same.trans e2 e3))) hq
variable {o e : Expr} {es : List Expr} {to : TE} {t : TA} {mo : DTE} {ma : DTA} {apos cpos : Pos}
theorem de_append (h : PE X o to → PA X [e] t → PE X (.Call (.Attribute o "append" apos) [e] [] cpos) (tBM X.K "list" rAppend to t)) (ho : DE X C o to mo) (ha : DA X C [e] t ma) {K0 : Fg} (hK0 : X.K = K0 := by rfl) (hK : K0 = C.K := by rfl) : DE X C (.Call (.Attribute o "append" apos) [e] [] cpos) (tBM K0 "list" rAppend to t) (mMut appendD mo ma) := by
  subst hK0
  exact (⟨h ho.pe ha.pa, by rw [hK]; exact sim_mut ho.sim ha.sim smt_append⟩)
theorem mt_pops : MtR X "list.pop" uPop := MtR.or mt_pop mt_popAt
theorem de_pop (h : PE X o to → PA X [e] t → PE X (.Call (.Attribute o "pop" apos) [e] [] cpos) (tBM X.K "list" uPop to t)) (ho : DE X C o to mo) (ha : DA X C [e] t ma) {K0 : Fg} (hK0 : X.K = K0 := by rfl) (hK : K0 = C.K := by rfl) : DE X C (.Call (.Attribute o "pop" apos) [e] [] cpos) (tBM K0 "list" uPop to t) (mMut popD mo ma) := by
  subst hK0
  exact (⟨h ho.pe ha.pa, by rw [hK]; exact sim_mut ho.sim ha.sim smt_pop⟩)
end
/-! ### several values at once -/
inductive PR (K : Fg) (O : List Addr) (H : Hp) : List (Addr × HO) → List V → List Res → Prop
  | nil : PR K O H [] [] []
  | val {us : List (Addr × HO)} {v : V} {d : D} {vs : List V} {rs : List Res} : Rep K (hide O H) v d → PR K O H us vs rs → PR K O H us (v :: vs) (.val d :: rs)
  | fr {us : List (Addr × HO)} {p : Addr} {o : HO} {d : D} {vs : List V} {rs : List Res} : OwnOk K (hide O H) o d → PR K O H us vs rs → PR K O H ((p, o) :: us) (.ref p :: vs) (.fr d :: rs)
theorem PR.mono {K : Fg} {O O' : List Addr} {H H' : Hp} (e : Same (hide O H) (hide O' H')) : ∀ {us : List (Addr × HO)} {vs : List V} {rs : List Res}, PR K O H us vs rs → PR K O' H' us vs rs
  | _, _, _, .nil => .nil
  | _, _, _, .val h t => .val (h.mono e) (PR.mono e t)
  | _, _, _, .fr h t => .fr (h.mono e) (PR.mono e t)
/-- values that wait, with the new objects among them owned -/
structure RelP (C : Ctx) (Γ : Env) (O : List Addr) (σ : L2.St) (H : Hp) (us : List (Addr × HO)) (vs : List V) (rs : List Res) : Prop where
  rel : RelO { C with U := us ++ C.U } Γ O σ H
  pr : PR C.K O H us vs rs
  nd : (us.map (·.1)).Nodup
  h0 : ∀ q ∈ us, C.H0 q.1 = none
  ap : ∀ q ∈ us, ∀ q' ∈ C.U, q'.1 ≠ q.1
abbrev DTP := Env → (List Res → Env → Prop) → Prop
def SimP (C : Ctx) (t : TA) (m : DTP) : Prop := ∀ (Γ : Env) (O : List Addr) (σ : L2.St) (H : Hp) (Qd : List Res → Env → Prop) (Q : List V → Hp → Prop), RelO C Γ O σ H → m Γ Qd →
  (∀ rs Γ' vs H' O' us, RelP C Γ' O' σ H' us vs rs → Same (hide O H) (hide O' H') → (∀ a ∈ O, a ∈ O') → Qd rs Γ' → Q vs H') → t σ H Q
def isPl : Res → Bool
  | .pl _ => true
  | .np _ _ => true
  | _ => false
def mPNil : DTP := fun Γ Q => Q [] Γ
def mPCons (ma : DTE) (mr : DTP) : DTP := fun Γ Q => ma Γ fun r Γ1 => isPl r = false ∧ mr Γ1 fun rs Γ2 => Q (r :: rs) Γ2
section
variable {C : Ctx}
theorem sim_pnil : SimP C tNil mPNil := fun Γ O σ H Qd Q R h k => k [] Γ [] H O [] ⟨R.congrU R.uu, .nil, List.nodup_nil, fun _ h => absurd h (by simp), fun _ h => absurd h (by simp)⟩ (L2.Same.refl _) (fun _ h => h) h
theorem sim_pcons {ta : TE} {tr : TA} {ma : DTE} {mr : DTP} (ha : SimE C ta ma) (hr : ∀ U, SimP { C with U := U } tr mr) : SimP C (tCons ta tr) (mPCons ma mr) := fun Γ O σ H Qd Q R h k => by
  refine ha Γ O σ H _ _ R h fun r Γ1 v H1 R1 e1 q1 => ?_
  obtain ⟨hp, q1⟩ := q1
  cases r with
  | pl i => cases hp
  | np a ds => cases hp
  | val d =>
    refine hr C.U Γ1 O σ H1 _ _ R1.1 q1 fun rs Γ2 vs H2 O2 us P2 e2 s2 q2 => ?_
    exact k _ Γ2 _ H2 O2 us ⟨P2.rel, .val (R1.2.mono e2) P2.pr, P2.nd, P2.h0, P2.ap⟩ (L2.Same.trans e1.1 e2) s2 q2
  | fr d =>
    obtain ⟨R0, p, o, rfl, hpp, hpO, h0, ho, R2⟩ := R1
    have hm : ∀ i, ¬ MutAt Γ1 σ i p := fun i m => hpO (R0.mutIn m)
    have hU : ∀ q ∈ C.U, q.1 ≠ p := fun q hq z => hpO (z ▸ (R0.uu q hq).2.1)
    have RU : RelO { C with U := (p, o) :: C.U } Γ1 (p :: O) σ H1 := R2.congrU fun q hq => by
      rcases List.mem_cons.mp hq with z | z
      · subst z; exact ⟨hpp, List.mem_cons_self, hm⟩
      · exact R2.uu q z
    have es : Same (hide O H) (hide (p :: O) H1) := e1.2 d p rfl rfl
    refine hr ((p, o) :: C.U) Γ1 (p :: O) σ H1 _ _ RU q1 fun rs Γ2 vs H2 O2 us P2 e2 s2 q2 => ?_
    have apP : ∀ q ∈ us, q.1 ≠ p := fun q hq z => P2.ap q hq (p, o) List.mem_cons_self z.symm
    refine k _ Γ2 _ H2 O2 ((p, o) :: us) ⟨P2.rel.subU (U' := (p, o) :: us ++ C.U) (C := C) fun q hq => ?_, .fr (ho.mono e2) P2.pr, List.nodup_cons.mpr ⟨fun z => ?_, P2.nd⟩, fun q hq => ?_, fun q hq q' hq' => ?_⟩ ?_ (fun a ha => s2 a (List.mem_cons_of_mem _ ha)) q2
    · rcases List.mem_append.mp hq with z | z
      · rcases List.mem_cons.mp z with z | z
        · subst z; exact List.mem_append_right _ List.mem_cons_self
        · exact List.mem_append_left _ z
      · exact List.mem_append_right _ (List.mem_cons_of_mem _ z)
    · obtain ⟨q, hq, e⟩ := List.mem_map.mp z
      exact apP q hq e
    · rcases List.mem_cons.mp hq with z | z
      · subst z; exact h0
      · exact P2.h0 q z
    · rcases List.mem_cons.mp hq with z | z
      · subst z; exact hU q' hq'
      · exact P2.ap q z q' (List.mem_cons_of_mem _ hq')
    · exact L2.Same.trans es e2
end
end DL
/-! the data layer, part 12: a, b = x, y; x[i] op= e -/
namespace DL
open PySem PySem.Spec PyProof.Rows L2
inductive Tg where
  | sh (i : Nat)
  | ow (i : Nat)
  | sub (mo mi : DTE)
  | gen (mg : DTG)
def mTgs : List Tg → List Res → Env → (Env → Prop) → Prop
  | [], [], Γ, Q => Q Γ
  | .sh i :: ts, r :: rs, Γ, Q => ∃ d, dat r = some d ∧ freeB Γ i = true ∧ mTgs ts rs (Γ.set i (.sh d)) Q
  | .ow i :: ts, r :: rs, Γ, Q => ∃ d, r = .fr d ∧ freeB Γ i = true ∧ mTgs ts rs (Γ.set i (.ow d)) Q
  | .sub mo mi :: ts, r :: rs, Γ, Q => ∃ d, dat r = some d ∧ mgSub mo mi stD d Γ fun Γ1 => mTgs ts rs Γ1 Q
  | .gen mg :: ts, r :: rs, Γ, Q => ∃ d, dat r = some d ∧ mg d Γ fun Γ1 => mTgs ts rs Γ1 Q
  | _, _, _, _ => False
def SimTs (C : Ctx) (g : TGs) (ts : List Tg) : Prop := ∀ (Γ : Env) (O : List Addr) (σ : L2.St) (H : Hp) (us : List (Addr × HO)) (vs : List V) (rs : List Res) (Qd : Env → Prop) (Q : L2.St → Hp → Prop), RelP C Γ O σ H us vs rs → mTgs ts rs Γ Qd →
  (∀ Γ' O' σ' H', RelO C Γ' O' σ' H' → Qd Γ' → Q σ' H') → g vs σ H Q
section
variable {C : Ctx} {Γ : Env} {O : List Addr} {σ : L2.St} {H : Hp} {us : List (Addr × HO)} {v : V} {vs : List V} {r : Res} {rs : List Res} {d : D} {i : Nat}
/-- the first of the waiting values is taken as shared -/
theorem RelP.take (P : RelP C Γ O σ H us (v :: vs) (r :: rs)) (hd : dat r = some d) : ∃ O' us', RelP C Γ O' σ H us' vs rs ∧ Rep C.K (hide O' H) v d := by
  cases P with
  | mk R pr nd h0 ap =>
    cases pr with
    | val h t => cases hd; exact ⟨O, us, ⟨R, t, nd, h0, ap⟩, h⟩
    | fr h t =>
      rename_i us' p o d'
      cases hd
      obtain ⟨n1, n2⟩ := List.nodup_cons.mp nd
      have apU : ∀ q ∈ us', q.1 ≠ p := fun q hq z => n1 (by rw [← z]; exact List.mem_map.mpr ⟨q, hq, rfl⟩)
      obtain ⟨hp, hpO, hm⟩ := R.uu (p, o) List.mem_cons_self
      have R' : RelO { C with U := us' ++ C.U } Γ O σ H := R.subU (U' := us' ++ C.U) (C := C) fun q hq => List.mem_cons_of_mem _ hq
      obtain ⟨R2, e⟩ := R'.letgo (p := p) (O' := O.filter fun a => decide (a ≠ p)) (h0 (p, o) List.mem_cons_self) hm (fun q hq => by
        rcases List.mem_append.mp hq with z | z
        · exact apU q z
        · exact ap (p, o) List.mem_cons_self q z) fun a => by simp [List.mem_filter]
      refine ⟨_, us', ⟨R2, t.mono e, n2, fun q hq => h0 q (List.mem_cons_of_mem _ hq), fun q hq => ap q (List.mem_cons_of_mem _ hq)⟩, (h.mono e).rep ?_⟩
      rw [hide_out (by simp [List.mem_filter])]
      exact hp
theorem sim_tnil : SimTs C gNil [] := fun Γ O σ H us vs rs Qd Q P h k => by
  cases P with
  | mk R pr nd h0 ap =>
    cases pr with
    | nil => exact ⟨rfl, k Γ O σ H (R.backU (C := C) fun q hq => List.mem_append_right _ hq) h⟩
    | val _ _ => exact h.elim
    | fr _ _ => exact h.elim
theorem sim_tsh {gs : TGs} {ts : List Tg} (hs : SimTs C gs ts) (i : Nat) : SimTs C (gCons (gName i) gs) (.sh i :: ts) := fun Γ O σ H us vs rs Qd Q P h k => by
  cases rs with
  | nil => exact h.elim
  | cons r rs =>
    obtain ⟨d, hd, hf, h⟩ := h
    cases vs with
    | nil => cases P.pr
    | cons v vs =>
      obtain ⟨O', us', P', hr⟩ := P.take hd
      exact ⟨v, vs, rfl, hs _ O' _ H us' vs rs _ _ ⟨P'.rel.setSh (freeB_of hf) hr, P'.pr, P'.nd, P'.h0, P'.ap⟩ h k⟩
theorem sim_tow {gs : TGs} {ts : List Tg} (hs : SimTs C gs ts) (i : Nat) : SimTs C (gCons (gName i) gs) (.ow i :: ts) := fun Γ O σ H us vs rs Qd Q P h k => by
  cases rs with
  | nil => exact h.elim
  | cons r rs =>
    obtain ⟨d, rfl, hf, h⟩ := h
    cases P with
    | mk R pr nd h0 ap =>
      cases pr with
      | fr ho t =>
        rename_i us' p o vs
        obtain ⟨n1, n2⟩ := List.nodup_cons.mp nd
        obtain ⟨hp, hpO, hm⟩ := R.uu (p, o) List.mem_cons_self
        have R' : RelO { C with U := us' ++ C.U } Γ O σ H := R.subU (U' := us' ++ C.U) (C := C) fun q hq => List.mem_cons_of_mem _ hq
        have hU : ∀ q ∈ us' ++ C.U, q.1 ≠ p := fun q hq => by
          rcases List.mem_append.mp hq with z | z
          · exact fun e => n1 (by rw [← e]; exact List.mem_map.mpr ⟨q, z, rfl⟩)
          · exact ap (p, o) List.mem_cons_self q z
        have R2 : RelO { C with U := us' ++ C.U } (Γ.set i (.ow d)) O (σ.set i (some (.ref p))) H := R'.set (freeB_of hf) (fun hl => ⟨p, o, List.getElem?_set_self hl, hpO, h0 (p, o) List.mem_cons_self, hp, ho⟩) (fun j a n m1 m2 => by
          have e := get_set_same m2.2
          have e2 := V.ref.inj (Option.some.inj e)
          exact hm j (by rw [e2]; exact m1)) fun q hq m => by
            have e := get_set_same m.2
            exact hU q hq (V.ref.inj (Option.some.inj e)).symm
        exact ⟨.ref p, vs, rfl, hs _ O _ H us' vs rs _ _ ⟨R2, t, n2, fun q hq => h0 q (List.mem_cons_of_mem _ hq), fun q hq => ap q (List.mem_cons_of_mem _ hq)⟩ h k⟩
theorem sim_tsub {gs : TGs} {ts : List Tg} {to ti : TE} {mo mi : DTE} (ho : ∀ U, SimE { C with U := U } to mo) (hi : ∀ U, SimE { C with U := U } ti mi) (hs : SimTs C gs ts) : SimTs C (gCons (gSub to ti rSetL) gs) (.sub mo mi :: ts) := fun Γ O σ H us vs rs Qd Q P h k => by
  cases rs with
  | nil => exact h.elim
  | cons r rs =>
    obtain ⟨d, hd, h⟩ := h
    cases vs with
    | nil => cases P.pr
    | cons v vs =>
      obtain ⟨O', us', P', hr⟩ := P.take hd
      refine ⟨v, vs, rfl, sim_gSub (ho (us' ++ C.U)) (hi (us' ++ C.U)) Γ O' σ H v d _ _ P'.rel hr h fun Γ1 σ1 H1 R1 e1 q1 => ?_⟩
      exact hs Γ1 O' σ1 H1 us' vs rs _ _ ⟨R1, P'.pr.mono e1, P'.nd, P'.h0, P'.ap⟩ q1 k
def mPar (mp : DTP) (ts : List Tg) : DTS := fun D Γ => mp Γ fun rs Γ1 => mTgs ts rs Γ1 D.nx
theorem sim_par2 {ta : TA} {mp : DTP} {i j : Nat} {t1 t2 : Tg} (hp : SimP C ta mp) (hs : SimTs C (gCons (gName i) (gCons (gName j) gNil)) [t1, t2]) : SimS C (tPar i j ta) (mPar mp [t1, t2]) := fun Γ O σ H D Dd R h L =>
  hp Γ O σ H _ _ R h fun rs Γ1 vs H1 O1 us P e s q => by
    obtain ⟨v, r, rfl, v2, r2, rfl, rfl, q2⟩ := hs Γ1 O1 σ H1 us vs rs _ D.nx P q fun Γ2 O2 σ2 H2 R2 q2 => L.nx Γ2 O2 σ2 H2 R2 q2
    exact ⟨v, v2, rfl, q2⟩
theorem sim_par3 {ta : TA} {mp : DTP} {i j l : Nat} {t1 t2 t3 : Tg} (hp : SimP C ta mp) (hs : SimTs C (gCons (gName i) (gCons (gName j) (gCons (gName l) gNil))) [t1, t2, t3]) : SimS C (tPar3 i j l ta) (mPar mp [t1, t2, t3]) := fun Γ O σ H D Dd R h L =>
  hp Γ O σ H _ _ R h fun rs Γ1 vs H1 O1 us P e s q => by
    obtain ⟨v, r, rfl, v2, r2, rfl, v3, r3, rfl, rfl, q2⟩ := hs Γ1 O1 σ H1 us vs rs _ D.nx P q fun Γ2 O2 σ2 H2 R2 q2 => L.nx Γ2 O2 σ2 H2 R2 q2
    exact ⟨v, v2, v3, rfl, q2⟩
theorem PR.len {K : Fg} : ∀ {us : List (Addr × HO)} {vs : List V} {rs : List Res}, PR K O H us vs rs → vs.length = rs.length
  | _, _, _, .nil => rfl
  | _, _, _, .val _ t => by rw [List.length_cons, List.length_cons, PR.len t]
  | _, _, _, .fr _ t => by rw [List.length_cons, List.length_cons, PR.len t]
/-- a, b, .. = x, y, .. by way of a tuple -/
theorem sim_asgT {ta : TA} {mp : DTP} {gs : TGs} {ts : List Tg} {n : Nat} (hp : SimP C ta mp) (hs : SimTs C gs ts) (hn : n ≤ 100000) : SimS C (tAsg (tTup ta) (gTup C.K n gs)) (fun D Γ => mp Γ fun rs Γ1 => rs.length = n ∧ mTgs ts rs Γ1 D.nx) := fun Γ O σ H D Dd R h L =>
  hp Γ O σ H _ _ R h fun rs Γ1 vs H1 O1 us P e s q => by
    obtain ⟨hl, q⟩ := q
    have lv : vs.length = n := by rw [P.pr.len, hl]
    refine ⟨by rw [lv]; exact sz5 hn, fun p hp1 => ⟨p, vs, rfl, SqT.of upd_same, lv, ?_⟩⟩
    exact hs Γ1 O1 σ _ us vs rs _ _ ⟨P.rel.alloc hp1, P.pr.mono (hide_new hp1), P.nd, P.h0, P.ap⟩ q fun Γ2 O2 σ2 H2 R2 q2 => L.nx Γ2 O2 σ2 H2 R2 q2
end
/-- the values on the right -/
structure DPa (X : Cx) (C : Ctx) (es : List Expr) (t : TA) (m : DTP) : Prop where
  pa : PA X es t
  sim : SimP C t m
structure DTs (X : Cx) (C : Ctx) (es : List Expr) (g : TGs) (ts : List Tg) : Prop where
  pgs : PGs X es g
  sim : SimTs C g ts
def mPar3 (n : Nat) (mp : DTP) (ts : List Tg) : DTS := fun D Γ => mp Γ fun rs Γ1 => rs.length = n ∧ mTgs ts rs Γ1 D.nx
section
variable {X : Cx} {C : Ctx} {st : Stmt} {ta : TA} {mp : DTP} {e : Expr} {es : List Expr} {te : TE} {me : DTE} {pos : Pos}
theorem dp_nil : DPa X C [] tNil mPNil := ⟨pa_nil, sim_pnil⟩
theorem dp_cons {tr : TA} {mr : DTP} (ha : DE X C e te me) (hr : ∀ U, DPa X { C with U := U } es tr mr) (hs : starEach (e :: es) X.env = (false, eval e X.env) :: starEach es X.env := by rfl) : DPa X C (e :: es) (tCons te tr) (mPCons me mr) := ⟨pa_cons ha.pe (hr C.U).pa hs, sim_pcons ha.sim fun U => (hr U).sim⟩
theorem dts_nil : DTs X C [] gNil [] := ⟨pgs_nil, sim_tnil⟩
theorem dts_sub {o i : Expr} {to ti : TE} {mo mi : DTE} {gs : TGs} {ts : List Tg} (h : PE X o to → PE X i ti → PG X (.Subscript o i pos) (gSub to ti rSetL)) (ho : ∀ U, DE X { C with U := U } o to mo) (hi : ∀ U, DE X { C with U := U } i ti mi) (hr : DTs X C es gs ts) (hs : (assignEach (.Subscript o i pos :: es) X.env).map (·.2) = assign (.Subscript o i pos) X.env :: (assignEach es X.env).map (·.2) := by rfl) :
    DTs X C (.Subscript o i pos :: es) (gCons (gSub to ti rSetL) gs) (.sub mo mi :: ts) := ⟨pgs_cons (h (ho C.U).pe (hi C.U).pe) hr.pgs hs, sim_tsub (fun U => (ho U).sim) (fun U => (hi U).sim) hr.sim⟩
/-- a, b = x, y: plain local names -/
theorem ds_par2 {i j : Nat} {t1 t2 : Tg} (h : PA X es ta → PS X st (tPar i j ta)) (hp : DPa X C es ta mp) (hs : SimTs C (gCons (gName i) (gCons (gName j) gNil)) [t1, t2]) : DS X C st (tPar i j ta) (mPar mp [t1, t2]) := ⟨h hp.pa, sim_par2 hp.sim hs⟩
theorem ds_par3 {i j l : Nat} {t1 t2 t3 : Tg} (h : PA X es ta → PS X st (tPar3 i j l ta)) (hp : DPa X C es ta mp) (hs : SimTs C (gCons (gName i) (gCons (gName j) (gCons (gName l) gNil))) [t1, t2, t3]) : DS X C st (tPar3 i j l ta) (mPar mp [t1, t2, t3]) := ⟨h hp.pa, sim_par3 hp.sim hs⟩
theorem ds_asgT {tes : List Expr} {k k2 : Nat} {tp tp2 : Pos} {gs : TGs} {ts : List Tg} {n : Nat} (hp : DPa X C es ta mp) (hg : DTs X C tes gs ts) (hc : X.calm = true) (hn2 : n ≤ 100000) (hn : (assignEach tes X.env).length = n := by rfl) (hst : (assignEach tes X.env).findIdx? (·.1) = none := by rfl)
    (hs : swapsWithSole [.Tuple tes k tp] (.Tuple es k2 tp2) pos.line X.env = pure false := by rfl) (hw : swappedStores [.Tuple tes k tp] (.Tuple es k2 tp2) X.env = pure none := by rfl) (h1 : (assignEach [.Tuple tes k tp] X.env).map (·.2) = [assign (.Tuple tes k tp) X.env] := by rfl) {K0 : Fg} (hK0 : X.K = K0 := by rfl) (hK : K0 = C.K := by rfl) :
    DS X C (.Assign [.Tuple tes k tp] (.Tuple es k2 tp2) pos) (tAsg (tTup ta) (gTup K0 n gs)) (mPar3 n mp ts) := by
  subst hK0
  exact (⟨ps_asg (pe_tup hp.pa) (pg_tup hc hg.pgs hn hst) hs hw h1, by rw [hK]; exact sim_asgT hp.sim hg.sim hn2⟩)
end
/-! ### x[i] op= e -/
theorem get_listG {X : Cx} : PGet X (rIxL X.K) := by
  intro pins s σ H x y v u Q I rx ry h
  obtain ⟨p, xs, i, z, rfl, rfl, hq, he, q⟩ := h
  cases rx
  obtain ⟨t, rfl⟩ := ry
  obtain ⟨its, r, pl, hz⟩ := I.list hq
  obtain ⟨j, h1, h2, h3, h4, h5⟩ := atI_get he
  obtain ⟨w, ew, rw'⟩ := r.get h2
  have hl := r.length
  have hn := line63
  have fin : EP X pins σ Q w s := ⟨z, H, I, rw', q⟩
  rcases Int.lt_or_le i 0 with h0 | h0
  · have hj : (i + (its.toArray.size : Int)).toNat = j := by
      rw [seqIndex_neg (by omega) h4] at h1
      rw [List.size_toArray, ← hl]
      exact Option.some.inj h1
    exact wpAny_getItem_list_neg pl.isList (by omega) (by rw [List.size_toArray] <;> omega) (by omega) (by rw [hj]; simpa using ew) fin
  · have hj : i.toNat = j := by
      rw [seqIndex_of h0 h5] at h1
      exact Option.some.inj h1
    exact wpAny_getItem_list pl.isList h0 (by omega) (by rw [hj]; simpa using ew) fin
def mAugS (mo mi me : DTE) (f : D → D → (Res → Prop) → Prop) : DTS := fun D Γ => mo Γ fun ro Γ1 => mi Γ1 fun ri Γ2 => ∃ i ds k x, ro = .pl i ∧ cont Γ2[i]? = some (.lst ds) ∧ ri = .val (.int k) ∧ atI ds k = some x ∧ me Γ2 fun rv Γ3 => ∃ y, rd Γ3 rv = some y ∧ f x y fun z => ∃ d ds3 j, z = .val d ∧ cont Γ3[i]? = some (.lst ds3) ∧ ixN ds3.length k = some j ∧ ∃ Γ4, setC Γ3 i (.lst (ds3.set j d)) = some Γ4 ∧ D.nx Γ4
section
variable {C : Ctx} {to ti te : TE} {mo mi me : DTE}
theorem sim_augS {g : Int → Int → Int} {f : D → D → (Res → Prop) → Prop} (hf : ∀ a b Q, f a b Q → ∃ i j, a = .int i ∧ b = .int j ∧ Q (.val (.int (g i j)))) (ho : SimE C to mo) (hi : SimE C ti mi) (he : SimE C te me) : SimS C (tAugS to ti te (rIxL C.K) (ipI g) rSetL) (mAugS mo mi me f) := fun Γ O σ H D Dd R h L => by
  refine ho Γ O σ H _ _ R h fun ro Γ1 xo H1 R1 e1 q1 => ?_
  refine hi Γ1 O σ H1 _ _ R1.rel q1 fun ri Γ2 xi H2 R2 e2 q2 => ?_
  obtain ⟨i, ds, k, x, rfl, hc, rfl, hx, q2⟩ := q2
  have hs : σ[i]? = some (some xo) := R1.2
  obtain ⟨a, vs, rfl, hl, hr⟩ := (Pend.b2 (r := .pl i) R2.1 hs hc).lst
  obtain rfl := (show B2 C.K O H2 xi (.int k) from .inl R2.2).int
  obtain ⟨v, hv, rv⟩ := hr.atI hx
  refine ⟨a, vs, k, v, rfl, rfl, SqL.of hl, hv, ?_⟩
  refine he Γ2 O σ H2 _ _ R2.1 q2 fun rr Γ3 y H3 R3 e3 q3 => ?_
  obtain ⟨dy, hy, q3⟩ := q3
  obtain ⟨m, n, rfl, rfl, d, ds3, j, hd, hc3, hj, Γ4, hset, q3⟩ := hf x dy _ q3
  cases hd
  obtain rfl := (show B2 C.K O H2 v (.int m) from .inl rv).int
  obtain rfl := (R3.pend.b2 R3.rel hy).int
  refine ⟨m, n, rfl, rfl, ?_⟩
  obtain ⟨a3, vs3, e, hl3, hr3⟩ := (Pend.b2 (r := .pl i) R3.rel hs hc3).lst
  cases e
  obtain ⟨R4, e4⟩ := set_relO (o := .lst (vs3.set j (.int (g m n)))) R3.rel hset hs (.lst (hr3.set (.int _) j))
  exact ⟨a, vs3, k, j, rfl, rfl, hl3, by rw [hr3.length]; exact hj, L.nx Γ4 O σ _ R4 q3⟩
end
section
variable {X : Cx} {C : Ctx} {o i e : Expr} {st : Stmt} {to ti te : TE} {mo mi me : DTE}
theorem ds_augSA (h : PE X o to → PE X i ti → PE X e te → PS X st (tAugS to ti te (rIxL X.K) (ipI fun i j => i + j) rSetL)) (ho : DE X C o to mo) (hi : DE X C i ti mi) (he : DE X C e te me) {K0 : Fg} (hK0 : X.K = K0 := by rfl) (hK : K0 = C.K := by rfl) : DS X C st (tAugS to ti te (rIxL K0) (ipI fun i j => i + j) rSetL) (mAugS mo mi me addI) := by
  subst hK0
  exact (⟨h ho.pe hi.pe he.pe, by
    rw [hK]
    exact sim_augS (fun a b Q h => by
      unfold addI at h
      split at h
      · exact ⟨_, _, rfl, rfl, h⟩
      · exact h.elim) ho.sim hi.sim he.sim⟩)
end
end DL
namespace DL
open PySem L2 PyProof.Rows
/-! ### repr of data with dicts -/
mutual
def plainZ : D → Bool
  | .non => true
  | .bl _ => true
  | .int _ => true
  | .str _ => true
  | .lst ds => plainZs ds
  | .scr ds => plainZs ds
  | .tup ds => plainZs ds
  | .dic kvs => plainZk kvs
  | .dkl kvs => plainZk kvs
  | .dit _ => false
  | .dtl _ => false
  | .pnK _ _ => false
  | .pnT _ _ => false
  | .obj _ _ _ => false
  | .cls _ => false
  | .xcl _ _ => false
def plainZs : List D → Bool
  | [] => true
  | d :: ds => plainZ d && plainZs ds
def plainZk : List (L2.Key × D) → Bool
  | [] => true
  | (_, d) :: ds => plainZ d && plainZk ds
end
/-- a value at this place of the heap prints as the data say -/
structure Told (P : Program) (w : World) (h : Heap) (u : Value) (d : PyData) : Prop where
  rd : ∃ as, Reads h u d as
  rp : ∃ bs, ReadAtMost h d.depth bs ∧ ReprK P w bs h d.depth u d.shown
structure Tolds (P : Program) (w : World) (h : Heap) (us : List Value) (ds : List PyData) : Prop where
  rd : ∃ as, ReadsAll h us ds as
  rp : ∃ bs, ReadAtMost h (PyData.depthAll ds) bs ∧ ReprAllK P w bs h (PyData.depthAll ds) us (PyData.shownAll ds)
section
variable {P : Program} {w : World} {h : Heap}
theorem Told.of_is {u : Value} {d : PyData} (r : Reads h u d []) (k : ReprIs P w u d.shown) : Told P w h u d := ⟨⟨_, r⟩, [], (fun _ z => nomatch z), .of_is k _ _ _⟩
theorem Tolds.nil : Tolds P w h [] [] := ⟨⟨_, .nil⟩, [], (fun _ z => nomatch z), by rw [PyData.shownAll]; exact .nil⟩
theorem atMost_app {m n : Nat} {b c : List Addr} (x : ReadAtMost h m b) (y : ReadAtMost h n c) : ReadAtMost h (max m n) (b ++ c) := (x.mono (Nat.le_max_left _ _)).append (y.mono (Nat.le_max_right _ _))
theorem Tolds.cons {u : Value} {d : PyData} {us : List Value} {ds : List PyData} (x : Told P w h u d) (y : Tolds P w h us ds) : Tolds P w h (u :: us) (d :: ds) := by
  obtain ⟨⟨a, ra⟩, b, hb, kb⟩ := x
  obtain ⟨⟨a', ra'⟩, b', hb', kb'⟩ := y
  refine ⟨⟨_, .cons ra ra'⟩, b ++ b', by rw [PyData.depthAll]; exact atMost_app hb hb', ?_⟩
  rw [PyData.depthAll, PyData.shownAll]
  exact .cons ((kb.more fun c hc => List.mem_append_left _ hc).level_le (Nat.le_max_left _ _)) (kb'.more_le (fun c hc => List.mem_append_right _ hc) (Nat.le_max_right _ _))
/-- the own address is none of those below -/
theorem apart {a : Addr} {d : PyData} {as bs : List Addr} {n : Nat} (r : Reads h (.ref a) d as) (e : d.depth = n + 1) (hb : ReadAtMost h n bs) : a ∉ bs := not_mem_of_deeper r (by omega) hb
theorem Told.list {a : Addr} {o : Obj} {n : Nat} {us : List Value} {ds : List PyData} (h1 : h.get? a = some o) (h2 : o.cls = .type "list") (h3 : o.data = .seq us.toArray n) (x : Tolds P w h us ds) : Told P w h (.ref a) (.list ds) := by
  obtain ⟨⟨as, ra⟩, b, hb, kb⟩ := x
  have r : Reads h (.ref a) (.list ds) _ := .list h1 h2 h3 (by simpa using ra)
  have ed : (PyData.list ds).depth = PyData.depthAll ds + 1 := by rw [PyData.depth]
  refine ⟨⟨_, r⟩, a :: b, ReadAtMost.cons r (by omega) hb, ?_⟩
  rw [ed, PyData.shown]
  cases us with
  | nil =>
    cases ra
    rw [PyData.shownAll, listText_nil]
    exact ReprK.listEmpty h1 h2 h3
  | cons y us => exact ReprK.list h1 h2 h3 (apart r ed hb) (by simpa using kb.length_eq) fun i y e => kb.item i y (by simpa using e)
theorem Told.tuple {a : Addr} {o : Obj} {n : Nat} {us : List Value} {ds : List PyData} (h1 : h.get? a = some o) (h2 : o.cls = .type "tuple") (h3 : o.data = .seq us.toArray n) (x : Tolds P w h us ds) : Told P w h (.ref a) (.tuple ds) := by
  obtain ⟨⟨as, ra⟩, b, hb, kb⟩ := x
  have r : Reads h (.ref a) (.tuple ds) _ := .tuple h1 h2 h3 (by simpa using ra)
  have ed : (PyData.tuple ds).depth = PyData.depthAll ds + 1 := by rw [PyData.depth]
  refine ⟨⟨_, r⟩, a :: b, ReadAtMost.cons r (by omega) hb, ?_⟩
  rw [ed, PyData.shown]
  exact ReprK.tuple h1 h2 h3 (apart r ed hb) (by simpa using kb)
theorem Told.dict {a : Addr} {o : Obj} {n : Nat} {es : Array DictEntry} {ps : List (PyData × PyData)} (hs : (a == sysModules) = false) (h1 : h.get? a = some o) (h2 : o.cls = .type "dict") (h3 : o.data = .dict es n)
    (x : Tolds P w h (es.toList.map (·.key)) (ps.map (·.1))) (y : Tolds P w h (es.toList.map (·.val)) (ps.map (·.2))) : Told P w h (.ref a) (.dict ps) := by
  obtain ⟨⟨a1, r1⟩, b1, hb1, k1⟩ := x
  obtain ⟨⟨a2, r2⟩, b2, hb2, k2⟩ := y
  have r : Reads h (.ref a) (.dict ps) _ := .dict h1 h2 h3 r1 r2
  have ed : (PyData.dict ps).depth = PyData.depthKv ps + 1 := by rw [PyData.depth]
  have hb : ReadAtMost h (PyData.depthKv ps) (b1 ++ b2) := (hb1.mono (PyData.depthAll_keys_le ps)).append (hb2.mono (PyData.depthAll_vals_le ps))
  refine ⟨⟨_, r⟩, a :: (b1 ++ b2), ReadAtMost.cons r (by omega) hb, ?_⟩
  rw [ed, PyData.shown, PyData.shownKv_eq]
  exact ReprK.dict h1 h2 h3 hs (apart r ed hb) (ReprEntriesK.of_two es.toList _ _ (k1.more_le (fun c hc => List.mem_append_left _ hc) (PyData.depthAll_keys_le ps)) (k2.more_le (fun c hc => List.mem_append_right _ hc) (PyData.depthAll_vals_le ps)))
theorem shows_list {a : Addr} {o : Obj} {n : Nat} {us : List Value} {ds : List PyData} (h1 : h.get? a = some o) (h2 : o.cls = .type "list") (h3 : o.data = .seq us.toArray n) (x : Tolds P w h us ds) (hz : (PyData.list ds).shown.length ≤ sizeLine) : ∃ T i, ShowsBy P w h a (.list ds) T i := by
  obtain ⟨⟨as, ra⟩, b, hb, kb⟩ := x
  have r : Reads h (.ref a) (.list ds) _ := .list h1 h2 h3 (by simpa using ra)
  have ed : (PyData.list ds).depth = PyData.depthAll ds + 1 := by rw [PyData.depth]
  have es : (PyData.list ds).shown = listText (PyData.shownAll ds) := by rw [PyData.shown]
  refine ⟨"list", "list.__repr__", F.slot_list_repr.toG, F.slot_list_str, F.slot_list_format, fun s hk => ⟨o, hk _ _ h1, h2⟩, fun A E s Q hg hu hk q => ?_⟩
  rw [ed] at hu
  rw [es] at q hz
  cases us with
  | nil =>
    cases ra
    rw [PyData.shownAll, listText_nil] at q
    exact call_list_repr_empty ⟨o, hk _ _ h1, h2⟩ (hk _ _ h1) h3 (q s.heap _ _ fun _ _ e => e)
  | cons y us => exact call_list_reprK h1 h2 h3 (apart r ed hb) (by simpa using kb.length_eq) (fun i y e => kb.item i y (by simpa using e)) hg (fun c _ => Clear.nil c) hu hk q hz
theorem shows_tuple {a : Addr} {o : Obj} {n : Nat} {us : List Value} {ds : List PyData} (h1 : h.get? a = some o) (h2 : o.cls = .type "tuple") (h3 : o.data = .seq us.toArray n) (x : Tolds P w h us ds) (hz : (PyData.tuple ds).shown.length ≤ sizeLine) : ∃ T i, ShowsBy P w h a (.tuple ds) T i := by
  obtain ⟨⟨as, ra⟩, b, hb, kb⟩ := x
  have r : Reads h (.ref a) (.tuple ds) _ := .tuple h1 h2 h3 (by simpa using ra)
  have ed : (PyData.tuple ds).depth = PyData.depthAll ds + 1 := by rw [PyData.depth]
  have es : (PyData.tuple ds).shown = tupleText (PyData.shownAll ds) := by rw [PyData.shown]
  refine ⟨"tuple", "tuple.__repr__", F.slot_tuple_repr, F.slot_tuple_str, F.slot_tuple_format, fun s hk => ⟨o, hk _ _ h1, h2⟩, fun A E s Q hg hu hk q => ?_⟩
  rw [ed] at hu
  rw [es] at q hz
  exact call_tuple_reprK h1 h2 h3 (apart r ed hb) (by simpa using kb) hg (fun c _ => Clear.nil c) hu hk q hz
theorem shows_dict {a : Addr} {o : Obj} {n : Nat} {es : Array DictEntry} {ps : List (PyData × PyData)} (hs : (a == sysModules) = false) (h1 : h.get? a = some o) (h2 : o.cls = .type "dict") (h3 : o.data = .dict es n)
    (x : Tolds P w h (es.toList.map (·.key)) (ps.map (·.1))) (y : Tolds P w h (es.toList.map (·.val)) (ps.map (·.2))) (hz : (PyData.dict ps).shown.length ≤ sizeLine) : ∃ T i, ShowsBy P w h a (.dict ps) T i := by
  obtain ⟨⟨a1, r1⟩, b1, hb1, k1⟩ := x
  obtain ⟨⟨a2, r2⟩, b2, hb2, k2⟩ := y
  have r : Reads h (.ref a) (.dict ps) _ := .dict h1 h2 h3 r1 r2
  have ed : (PyData.dict ps).depth = PyData.depthKv ps + 1 := by rw [PyData.depth]
  have es : (PyData.dict ps).shown = dictText (PyData.shownKv ps) := by rw [PyData.shown]
  have hb : ReadAtMost h (PyData.depthKv ps) (b1 ++ b2) := (hb1.mono (PyData.depthAll_keys_le ps)).append (hb2.mono (PyData.depthAll_vals_le ps))
  refine ⟨"dict", "dict.__repr__", F.slot_dict_repr, F.slot_dict_str, F.slot_dict_format, fun s hk => ⟨o, hk _ _ h1, h2⟩, fun A E s Q hg hu hk q => ?_⟩
  rw [ed] at hu
  rw [es, PyData.shownKv_eq] at q hz
  exact call_dict_reprK h1 h2 h3 hs (apart r ed hb) (ReprEntriesK.of_two _ _ _ (k1.more_le (fun c hc => List.mem_append_left _ hc) (PyData.depthAll_keys_le ps)) (k2.more_le (fun c hc => List.mem_append_right _ hc) (PyData.depthAll_vals_le ps))) hg (fun c _ => Clear.nil c) hu hk q hz
end
/-! sizes of the parts -/
theorem lens_list {ds : List PyData} {m : Nat} (h : (PyData.list ds).shown.length ≤ m) : ∀ t ∈ PyData.shownAll ds, t.length ≤ m := fun t ht => by
  rw [PyData.shown] at h
  exact Nat.le_trans (listText_mem_le ht) h
theorem lens_tuple {ds : List PyData} {m : Nat} (h : (PyData.tuple ds).shown.length ≤ m) : ∀ t ∈ PyData.shownAll ds, t.length ≤ m := fun t ht => by
  rw [PyData.shown] at h
  exact Nat.le_trans (tupleText_mem_le ht) h
theorem lens_keys {ps : List (PyData × PyData)} {m : Nat} (h : (PyData.dict ps).shown.length ≤ m) : ∀ t ∈ PyData.shownAll (ps.map (·.1)), t.length ≤ m := fun t ht => by
  rw [PyData.shown] at h
  obtain ⟨p, hp, hl⟩ := PyData.shownKv_key_le ps t ht
  exact Nat.le_trans hl (Nat.le_trans (dictText_mem_le hp) h)
theorem lens_vals {ps : List (PyData × PyData)} {m : Nat} (h : (PyData.dict ps).shown.length ≤ m) : ∀ t ∈ PyData.shownAll (ps.map (·.2)), t.length ≤ m := fun t ht => by
  rw [PyData.shown] at h
  obtain ⟨p, hp, hl⟩ := PyData.shownKv_val_le ps t ht
  exact Nat.le_trans hl (Nat.le_trans (dictText_mem_le hp) h)
section
variable {X : Cx} {pins : List (Addr × Obj)} {σ : L2.St} {H : Hp} {s : Shared}
theorem Tolds.keys : ∀ {es : List DictEntry} {vs : List (L2.Key × Value)} {dks : List (L2.Key × D)}, Pairs (mixKind X.prog X.w) es vs → vs.map (·.1) = dks.map (·.1) → PyData.showableAll ((toPyK dks).map (·.1)) = true → (∀ t ∈ PyData.shownAll ((toPyK dks).map (·.1)), t.length ≤ sizeLine) →
    Tolds X.prog X.w s.heap (es.map (·.key)) ((toPyK dks).map (·.1))
  | _, _, [], .nil, _, _, _ => by rw [toPyK]; exact .nil
  | _, _, (k, d) :: dks, .nil, e, _, _ => by simp at e
  | _, _, [], .cons _ _ _, e, _, _ => by simp at e
  | _, _, (k, d) :: dks, .cons (kv := kv) hk _ r, e, hs, hz => by
    rw [toPyK, List.map_cons] at *
    simp only [List.map_cons, List.cons.injEq] at e
    rw [PyData.showableAll, Bool.and_eq_true] at hs
    rw [PyData.shownAll] at hz
    refine .cons ?_ (Tolds.keys r e.2 hs.2 fun t ht => hz t (List.mem_cons_of_mem _ ht))
    have hz0 := hz _ (List.mem_cons_self ..)
    rcases keyIs_shape hk with ⟨i, t, e1, e2⟩ | ⟨x, t, e1, e2⟩
    · rw [e2]
      have ek : k = Sum.inl i := by rw [← e.1, e1]
      rw [ek] at hs ⊢
      exact .of_is (.int i t) (ReprIs.int t (by simpa [keyPy, PyData.showable] using hs.1))
    · rw [e2]
      have ek : k = Sum.inr x := by rw [← e.1, e1]
      rw [ek] at hz0 ⊢
      exact .of_is (.str x t) (ReprIs.str x t (by simpa only [keyPy, PyData.shown] using hz0))
theorem kv_fst : ∀ {kvs : List (L2.Key × V)} {vs : List (L2.Key × Value)}, KV kvs vs → kvs.map (·.1) = vs.map (·.1)
  | _, _, h => by
    induction h with
    | nil => rfl
    | cons hx _ ih => rw [List.map_cons, List.map_cons, ih, hx.1]
theorem kv_snd {kvs : List (L2.Key × V)} {vs : List (L2.Key × Value)} (h : KV kvs vs) : Vals (kvs.map (·.2)) (vs.map (·.2)) := by
  induction h with
  | nil => exact .nil
  | cons hx _ ih => exact .cons hx.2 ih
theorem pairs_val : ∀ {es : List DictEntry} {vs : List (L2.Key × Value)}, Pairs (mixKind X.prog X.w) es vs → es.map (·.val) = vs.map (·.2)
  | _, _, .nil => rfl
  | _, _, .cons _ e r => by rw [List.map_cons, List.map_cons, e, pairs_val r]
theorem repK_fst : ∀ {kvs : List (L2.Key × V)} {dks : List (L2.Key × D)}, RepK X.K H kvs dks → kvs.map (·.1) = dks.map (·.1)
  | _, _, .nil => rfl
  | _, _, .cons _ r => by rw [List.map_cons, List.map_cons, repK_fst r]
theorem dict_parts (I : Inv X pins σ H s) {a : Addr} {kvs : List (L2.Key × V)} {dks : List (L2.Key × D)} (e : Rd H a (.dK kvs)) (r : RepK X.K H kvs dks) (hs : PyData.showableKv (toPyK dks) = true) (hz : (PyData.dict (toPyK dks)).shown.length ≤ sizeLine)
    (h : ∀ us, Vals (kvs.map (·.2)) us → Tolds X.prog X.w s.heap us ((toPyK dks).map (·.2))) : ∃ o es ep, (a == sysModules) = false ∧ s.heap.get? a = some o ∧ o.cls = .type "dict" ∧ o.data = .dict es ep ∧
      Tolds X.prog X.w s.heap (es.toList.map (·.key)) ((toPyK dks).map (·.1)) ∧ Tolds X.prog X.w s.heap (es.toList.map (·.val)) ((toPyK dks).map (·.2)) := by
  obtain ⟨_, hsys, vs, hkv, o, es, ep, ho, hod, hdat, _, hes, _⟩ := dk_rd I.hok e
  obtain ⟨hs1, _⟩ := PyData.showableKv_split _ hs
  refine ⟨o, es, ep, hsys, ho, hod.1, hdat, .keys hes (by rw [← kv_fst hkv, repK_fst r]) hs1 (lens_keys hz), ?_⟩
  rw [pairs_val hes]
  exact h _ (kv_snd hkv)
theorem told_dict (I : Inv X pins σ H s) {a : Addr} {kvs : List (L2.Key × V)} {dks : List (L2.Key × D)} (e : Rd H a (.dK kvs)) (r : RepK X.K H kvs dks) (hs : PyData.showableKv (toPyK dks) = true) (hz : (PyData.dict (toPyK dks)).shown.length ≤ sizeLine)
    (h : ∀ us, Vals (kvs.map (·.2)) us → Tolds X.prog X.w s.heap us ((toPyK dks).map (·.2))) : Told X.prog X.w s.heap (.ref a) (.dict (toPyK dks)) := by
  obtain ⟨o, es, ep, a1, a2, a3, a4, a5, a6⟩ := dict_parts I e r hs hz h
  exact .dict a1 a2 a3 a4 a5 a6
mutual
theorem Rep.told (I : Inv X pins σ H s) : ∀ {v : V} {d : D}, Rep X.K H v d → plainZ d = true → ∀ u, RelV v u → (toPy d).showable = true → (toPy d).shown.length ≤ sizeLine → Told X.prog X.w s.heap u (toPy d)
  | _, _, .non, _, _, r, _, _ => by cases r; rw [toPy]; exact .of_is .none ReprIs.none
  | _, _, .bl b, _, _, r, _, _ => by cases r; rw [toPy]; exact .of_is (.bool b) (ReprIs.bool b)
  | _, _, .int i, _, _, r, hs, _ => by
    obtain ⟨t, rfl⟩ := r
    rw [toPy] at *
    exact .of_is (.int i t) (ReprIs.int t (by simpa [PyData.showable] using hs))
  | _, _, .str x, _, _, r, _, hz => by
    obtain ⟨t, rfl⟩ := r
    rw [toPy] at *
    exact .of_is (.str x t) (ReprIs.str x t (by simpa only [PyData.shown] using hz))
  | _, _, .lst h q, e, _, r, hs, hz => by
    cases r
    rw [plainZ] at e
    rw [toPy] at *
    rw [PyData.showable] at hs
    obtain ⟨its, rv, ⟨o, n, ho, hc, _, hd⟩, _⟩ := I.list (SqL.of h)
    exact .list ho hc hd (Reps.tolds I q e its rv hs (lens_list hz))
  | _, _, .scr h q, e, _, r, hs, hz => by
    cases r
    rw [plainZ] at e
    rw [toPy] at *
    rw [PyData.showable] at hs
    obtain ⟨its, rv, ⟨o, n, ho, hc, _, hd⟩, _⟩ := I.list h
    exact .list ho hc hd (Reps.tolds I q e its rv hs (lens_list hz))
  | _, _, .tup h q, e, _, r, hs, hz => by
    cases r
    rw [plainZ] at e
    rw [toPy] at *
    rw [PyData.showable] at hs
    obtain ⟨its, rv, ⟨o, ho, hc, n, hd⟩, _⟩ := I.tuple (SqT.of h)
    exact .tuple ho hc hd (Reps.tolds I q e its rv hs (lens_tuple hz))
  | _, _, .dic h q, e, _, r, hs, hz => by
    cases r
    rw [plainZ] at e
    rw [toPy] at *
    rw [PyData.showable] at hs
    exact told_dict I (.inl h) q hs hz fun us hu => RepK.tolds I q e us hu (PyData.showableKv_split _ hs).2 (lens_vals hz)
  | _, _, .dkl h q, e, _, r, hs, hz => by
    cases r
    rw [plainZ] at e
    rw [toPy] at *
    rw [PyData.showable] at hs
    exact told_dict I (.inr ⟨_, h⟩) q hs hz fun us hu => RepK.tolds I q e us hu (PyData.showableKv_split _ hs).2 (lens_vals hz)
  | _, _, .dit _ _, e, _, _, _, _ => by rw [plainZ] at e; cases e
  | _, _, .dtl _ _, e, _, _, _, _ => by rw [plainZ] at e; cases e
  | _, _, .pnK _, e, _, _, _, _ => by rw [plainZ] at e; cases e
  | _, _, .pnT _, e, _, _, _, _ => by rw [plainZ] at e; cases e
  | _, _, .obj _ _ _, e, _, _, _, _ => by rw [plainZ] at e; cases e
  | _, _, .cls _, e, _, _, _, _ => by rw [plainZ] at e; cases e
  | _, _, .xcl _, e, _, _, _, _ => by rw [plainZ] at e; cases e
theorem Reps.tolds (I : Inv X pins σ H s) : ∀ {v : List V} {d : List D}, Reps X.K H v d → plainZs d = true → ∀ us, Vals v us → PyData.showableAll (toPys d) = true → (∀ t ∈ PyData.shownAll (toPys d), t.length ≤ sizeLine) → Tolds X.prog X.w s.heap us (toPys d)
  | _, _, .nil, _, _, r, _, _ => by cases r; rw [toPys]; exact .nil
  | _, _, .cons h q, e, us, r, hs, hz => by
    cases us with
    | nil => cases r
    | cons u us =>
      obtain ⟨r1, r2⟩ : RelV _ u ∧ Vals _ us := by cases r with | cons a b => exact ⟨a, b⟩
      rw [plainZs, Bool.and_eq_true] at e
      rw [toPys] at *
      rw [PyData.showableAll, Bool.and_eq_true] at hs
      rw [PyData.shownAll] at hz
      exact .cons (Rep.told I h e.1 u r1 hs.1 (hz _ (List.mem_cons_self ..))) (Reps.tolds I q e.2 us r2 hs.2 fun t ht => hz t (List.mem_cons_of_mem _ ht))
theorem RepK.tolds (I : Inv X pins σ H s) : ∀ {v : List (L2.Key × V)} {d : List (L2.Key × D)}, RepK X.K H v d → plainZk d = true → ∀ us, Vals (v.map (·.2)) us → PyData.showableAll ((toPyK d).map (·.2)) = true → (∀ t ∈ PyData.shownAll ((toPyK d).map (·.2)), t.length ≤ sizeLine) → Tolds X.prog X.w s.heap us ((toPyK d).map (·.2))
  | _, _, .nil, _, _, r, _, _ => by cases r; rw [toPyK]; exact .nil
  | _, _, .cons h q, e, us, r, hs, hz => by
    cases us with
    | nil => cases r
    | cons u us =>
      rw [List.map_cons] at r
      obtain ⟨r1, r2⟩ : RelV _ u ∧ Vals _ us := by cases r with | cons a b => exact ⟨a, b⟩
      rw [plainZk, Bool.and_eq_true] at e
      rw [toPyK, List.map_cons] at *
      rw [PyData.showableAll, Bool.and_eq_true] at hs
      rw [PyData.shownAll] at hz
      exact .cons (Rep.told I h e.1 u r1 hs.1 (hz _ (List.mem_cons_self ..))) (RepK.tolds I q e.2 us r2 hs.2 fun t ht => hz t (List.mem_cons_of_mem _ ht))
end
/-- what repr asks of data -/
def okZ (d : D) : Bool := plainZ d && ((toPy d).showable && decide ((toPy d).depth ≤ 50) && decide ((toPy d).shown.length ≤ 1000000))
theorem call_reprZ {v : V} {d : D} {u : Value} {Q E : Value → Shared → Prop} (I : Inv X pins σ H s) (hg : X.A.guards = some []) (hu : X.A.units + 100 < cLine) (h : Rep X.K H v d) (r : RelV v u) (ho : okZ d = true)
    (q : ∀ h' t tk, (∀ b o, s.heap.get? b = some o → h'.get? b = some o) → Q (.str (toPy d).shown t) { s with heap := h', toks := tk }) : wpAny (model X.prog X.w) X.A (call (.builtin "repr") [u]) Q E s := by
  have big : (1000000 : Nat) ≤ sizeLine := by decide
  unfold okZ at ho
  simp only [Bool.and_eq_true, decide_eq_true_eq] at ho
  obtain ⟨h1, ⟨h2, h3⟩, h4⟩ := ho
  have hz := Nat.le_trans h4 big
  have hc : X.A.units + ((toPy d).depth + 1) < cLine := by omega
  have done : ∀ a, u = .ref a → (∃ T i, ShowsBy X.prog X.w s.heap a (toPy d) T i) → wpAny (model X.prog X.w) X.A (call (.builtin "repr") [u]) Q E s := by
    rintro a rfl ⟨T, i, S⟩
    exact call_repr_slot (by omega) (S.typeIs s fun _ _ e => e) S.slotRepr (S.call X.A.in1 E s _ hg (by show X.A.units + 1 + _ < cLine; omega) (fun _ _ e => e) fun h' t tk hk => ⟨_, _, rfl, q h' t tk hk⟩)
  cases h with
  | non => cases r; exact PySem.P.repr_of_none (q s.heap _ _ fun _ _ e => e)
  | bl b => cases r; exact PySem.P.repr_of_bool (by rw [toPy, PyData.shown] at q; exact q s.heap _ _ fun _ _ e => e)
  | int i =>
    obtain ⟨t, rfl⟩ := r
    rw [toPy] at h2 q
    exact PySem.P.repr_of_int (of_decide_eq_true h2) (q s.heap _ _ fun _ _ e => e)
  | str z =>
    obtain ⟨t, rfl⟩ := r
    rw [toPy] at hz q
    exact PySem.P.repr_of_str (q s.heap _ _ fun _ _ e => e) hz
  | lst h rr =>
    cases r
    rw [plainZ] at h1
    rw [toPy] at *
    rw [PyData.showable] at h2
    obtain ⟨its, rv, ⟨o, n, ho, hcl, _, hd⟩, _⟩ := I.list (SqL.of h)
    exact done _ rfl (shows_list ho hcl hd (Reps.tolds I rr h1 its rv h2 (lens_list hz)) hz)
  | scr h rr =>
    cases r
    rw [plainZ] at h1
    rw [toPy] at *
    rw [PyData.showable] at h2
    obtain ⟨its, rv, ⟨o, n, ho, hcl, _, hd⟩, _⟩ := I.list h
    exact done _ rfl (shows_list ho hcl hd (Reps.tolds I rr h1 its rv h2 (lens_list hz)) hz)
  | tup h rr =>
    cases r
    rw [plainZ] at h1
    rw [toPy] at *
    rw [PyData.showable] at h2
    obtain ⟨its, rv, ⟨o, ho, hcl, n, hd⟩, _⟩ := I.tuple (SqT.of h)
    exact done _ rfl (shows_tuple ho hcl hd (Reps.tolds I rr h1 its rv h2 (lens_tuple hz)) hz)
  | dic h rr =>
    cases r
    rw [plainZ] at h1
    rw [toPy] at *
    rw [PyData.showable] at h2
    obtain ⟨o, es, ep, a1, a2, a3, a4, a5, a6⟩ := dict_parts I (.inl h) rr h2 hz fun us hv => RepK.tolds I rr h1 us hv (PyData.showableKv_split _ h2).2 (lens_vals hz)
    exact done _ rfl (shows_dict a1 a2 a3 a4 a5 a6 hz)
  | dkl h rr =>
    cases r
    rw [plainZ] at h1
    rw [toPy] at *
    rw [PyData.showable] at h2
    obtain ⟨o, es, ep, a1, a2, a3, a4, a5, a6⟩ := dict_parts I (.inr ⟨_, h⟩) rr h2 hz fun us hv => RepK.tolds I rr h1 us hv (PyData.showableKv_split _ h2).2 (lens_vals hz)
    exact done _ rfl (shows_dict a1 a2 a3 a4 a5 a6 hz)
  | dit h rr => rw [plainZ] at h1; cases h1
  | dtl h rr => rw [plainZ] at h1; cases h1
  | pnK h => rw [plainZ] at h1; cases h1
  | pnT h => rw [plainZ] at h1; cases h1
  | obj h _ _ => rw [plainZ] at h1; cases h1
  | cls => rw [plainZ] at h1; cases h1
  | xcl => rw [plainZ] at h1; cases h1
end
end DL
/-! the data layer, part 13: isinstance, repr, in, enumerate, zip -/
namespace DL
open PySem PySem.Spec PyProof.Rows L2
/-! ### isinstance of a built-in class -/
/-- the datum's type by name; an object has none here -/
def tyN : D → Option String
  | .non => some "NoneType"
  | .bl _ => some "bool"
  | .int _ => some "int"
  | .str _ => some "str"
  | .lst _ => some "list"
  | .scr _ => some "list"
  | .tup _ => some "tuple"
  | .dic _ => some "dict"
  | .dit _ => some "dict"
  | .dkl _ => some "dict"
  | .dtl _ => none
  | .pnK _ _ => none
  | .pnT _ _ => none
  | .obj _ _ _ => none
  | .cls _ => none
  | .xcl _ _ => none
def isTy (T : String) (d : D) : Bool := match tyN d with
  | some t => t == T || (t == "bool" && T == "int")
  | none => false
def mIsi (T : String) (ma : DTE) : DTE := fun Γ Q => ma Γ fun r Γ1 => ∃ d, rd Γ1 r = some d ∧ (tyN d).isSome = true ∧ Q (.val (.bl (isTy T d))) Γ1
section
variable {X : Cx} {C : Ctx} {ta tb : TE} {ma mb : DTE} {a b e : Expr} {pos p p2 : Pos}
/-! ### repr -/
def okR (d : D) : Bool := plain d && ((toPy d).showable && decide ((toPy d).depth ≤ 50) && decide ((toPy d).shown.length ≤ 1000000) && !(toPy d).hasDict)
def reprD : List D → (Res → Prop) → Prop
  | [d], Q => (d = .dic [] ∨ okR d = true ∨ okZ d = true) ∧ Q (.val (.str (toPy d).shown))
  | _, _ => False
def rRepr (K : Fg) : List V → Hp → VK → Prop := fun xs H Q => (∃ x d, xs = [x] ∧ Dp K H x d ∧ (d.showable = true ∧ d.depth ≤ 50 ∧ d.shown.length ≤ 1000000 ∧ d.hasDict = false) ∧ Q (.str d.shown) H) ∨ (∃ a, xs = [.ref a] ∧ H a = some (.dK []) ∧ Q (.str (PyData.dict []).shown) H) ∨ ∃ x d, xs = [x] ∧ Rep K H x d ∧ okZ d = true ∧ Q (.str (toPy d).shown) H
theorem call_repr (hg : X.A.guards = some []) (hu : X.A.units + 100 < cLine) : CallR X (.builtin "repr") (rRepr X.K) := by
  intro pins s σ H xs us Q I r h
  have big : (1000000 : Nat) ≤ sizeLine := by decide
  rcases h with h | ⟨a, rfl, ha, q⟩ | ⟨x, d, rfl, hd, ho, q⟩
  rotate_left
  · obtain ⟨u, rfl, rx⟩ := vals1 r
    cases rx
    obtain ⟨_, hsys, vs, hkv, o, es, ep, ho, hod, hdat, _, hes, _⟩ := I.hok a _ ha
    cases hkv
    have hes0 : es.toList = [] := by
      generalize es.toList = l at hes
      cases l with
      | nil => rfl
      | cons x y => first | exact hes.elim | cases hes | (simp [Pairs] at hes)
    have hr : Reads s.heap (.ref a) (.dict []) (a :: [] ++ []) := .dict ho hod.1 hdat (by rw [hes0]; exact .nil) (by rw [hes0]; exact .nil)
    refine repr_of_reads' hr (by decide +kernel) (fun _ hm => ?_) hg (by simp only [PyData.depth, PyData.depthKv]; omega) (fun _ _ e => e) (fun h' u tk kk => ⟨.str _, H, I.kept kk, ⟨_, rfl⟩, q⟩) (Nat.le_trans (by decide +kernel) big)
    have hm : sysModules = a := by simpa using hm
    rw [hm] at hsys
    simp at hsys
  · obtain ⟨u, rfl, rx⟩ := vals1 r
    exact call_reprZ I hg hu hd rx ho fun h' t tk kk => ⟨.str _, H, I.kept kk, ⟨_, rfl⟩, q⟩
  obtain ⟨x, d, rfl, hd, ⟨h1, h2, h3, h4⟩, q⟩ := h
  obtain ⟨u, rfl, rx⟩ := vals1 r
  cases hd with
  | non => cases rx; exact PySem.P.repr_of_none ⟨.str _, H, I.tok _, ⟨_, rfl⟩, q⟩
  | bl b => cases rx; exact PySem.P.repr_of_bool ⟨.str _, H, I.tok _, ⟨_, rfl⟩, q⟩
  | int i =>
    obtain ⟨t, rfl⟩ := rx
    exact PySem.P.repr_of_int (of_decide_eq_true h1) ⟨.str _, H, I.tok _, ⟨_, rfl⟩, q⟩
  | str z =>
    obtain ⟨t, rfl⟩ := rx
    exact PySem.P.repr_of_str ⟨.str _, H, I.tok _, ⟨_, rfl⟩, q⟩ (Nat.le_trans h3 big)
  | lst hs ha =>
    obtain ⟨as, hr⟩ := Dp.reads I _ _ u (.lst hs ha) rx
    cases rx
    exact repr_of_reads' hr h1 (fun z => by rw [h4] at z; cases z) hg (by omega) (fun _ _ e => e) (fun h' u tk kk => ⟨.str _, H, I.kept kk, ⟨_, rfl⟩, q⟩) (Nat.le_trans h3 big)
  | tup hs ha =>
    obtain ⟨as, hr⟩ := Dp.reads I _ _ u (.tup hs ha) rx
    cases rx
    exact repr_of_reads' hr h1 (fun z => by rw [h4] at z; cases z) hg (by omega) (fun _ _ e => e) (fun h' u tk kk => ⟨.str _, H, I.kept kk, ⟨_, rfl⟩, q⟩) (Nat.le_trans h3 big)
theorem B2.repH {K : Fg} {O : List Addr} {H : Hp} {v : V} {d : D} (h : B2 K O H v d) : Rep K H v d := by
  rcases h with h | ⟨l, o, rfl, h1, h⟩
  · exact h.mono hide_same
  · exact (h.mono hide_same).rep h1
theorem sim_repr {K : Fg} : SimRC K (rRepr K) reprD := fun O H vs ds Qd Q h q k => by
  unfold reprD at q
  split at q
  · rename_i d
    obtain ⟨v, rfl, hb⟩ := h.one
    obtain ⟨ho, q⟩ := q
    rcases ho with rfl | ho | ho
    rotate_right
    · exact .inr (.inr ⟨v, d, rfl, hb.repH, ho, k.val _ _ (.str _) q⟩)
    · obtain ⟨a, vs, rfl, e, r⟩ := hb.dic
      cases r
      exact .inr (.inl ⟨a, rfl, e, k.val _ _ (.str _) q⟩)
    unfold okR at ho
    simp only [Bool.and_eq_true, decide_eq_true_eq, Bool.not_eq_true'] at ho
    exact .inl ⟨v, toPy d, rfl, hb.dp ho.1, ⟨ho.2.1.1.1, ho.2.1.1.2, ho.2.1.2, ho.2.2⟩, k.val _ _ (.str _) q⟩
  · exact q.elim
theorem de_repr {tr : TA} {mr : DTA} (hgu : X.A.guards = some []) (hu : X.A.units + 100 < cLine) (hg : Gl X "repr") (hm : X.mg "repr" = none) (ha : DA X C [e] tr mr) {K0 : Fg} (hK0 : X.K = K0 := by rfl) (hK : K0 = C.K := by rfl) (he : starEach [e] X.env = (false, eval e X.env) :: starEach [] X.env := by rfl) :
    DE X C (.Call (.Name "repr" p) [e] [] pos) (tCB (rRepr K0) tr) (mCB reprD mr) := by
  subst hK0
  exact (de_cb (call_repr hgu hu) (by rw [hK]; exact sim_repr) hg hm (by decide +kernel) ha (he := he) (hpl := rfl))
/-! ### in, not in -/
def inD : D → D → (Res → Prop) → Prop
  | x, .lst ds, Q => okE x = true ∧ okE (.lst ds) = true ∧ Q (.val (.bl (ds.any fun z => eqv z x)))
  | x, .tup ds, Q => ∃ i ns, x = .int i ∧ ints? ds = some ns ∧ Q (.val (.bl (decide (i ∈ ns))))
  | .str c, .str z, Q => ∃ k, c = ⟨#[k]⟩ ∧ Q (.val (.bl (decide (k ∈ z.cps.toList))))
  | _, _, _ => False
end
/-! ### enumerate, zip -/
def enumD : Nat → List D → List D
  | _, [] => []
  | k, d :: ds => .tup [.int k, d] :: enumD (k + 1) ds
theorem enumD_len : ∀ (k : Nat) (ds : List D), (enumD k ds).length = ds.length
  | _, [] => rfl
  | k, d :: ds => by unfold enumD; rw [List.length_cons, List.length_cons, enumD_len (k + 1) ds]
theorem enumD_get : ∀ (k : Nat) (ds : List D) (i : Nat) (d : D), ds[i]? = some d → (enumD k ds)[i]? = some (.tup [.int ((k + i : Nat) : Int), d])
  | _, [], _, _, h => by cases h
  | k, d :: ds, 0, d', h => by cases h; rfl
  | k, d :: ds, i + 1, d', h => by
    have := enumD_get (k + 1) ds i d' h
    rw [show k + (i + 1) = k + 1 + i by omega]
    exact this
theorem itd_enum {K : Fg} {a : Addr} {ds : List D} : ItD K (Ite K a) ds.length (fun O H => B2 K O H (.ref a) (.lst ds)) (enumD 0 ds) where
  len := enumD_len 0 ds
  go := fun i O H h hi => by
    obtain ⟨a', vs, e, h1, r⟩ := h.lst
    cases e
    have : i < vs.length := by rw [r.length]; exact hi
    exact ⟨vs, vs[i], SqL.of h1, by simp [this]⟩
  stop := fun O H h => by
    obtain ⟨a', vs, e, h1, r⟩ := h.lst
    cases e
    exact ⟨vs, SqL.of h1, by rw [r.length]; exact Nat.le_refl _⟩
  yld := fun i O H x H' h hi y => by
    obtain ⟨a', vs, e, h1, r⟩ := h.lst
    cases e
    obtain ⟨T, x', rfl, hT, rfl, hy⟩ := y
    obtain ⟨d, hd, hr⟩ := r.getV (hy vs (SqL.of h1))
    refine ⟨_, enumD_get 0 ds i d hd, .inr ⟨T, _, _, rfl, hT, rfl, .cons ?_ (.cons hr .nil), rfl⟩⟩
    rw [Nat.zero_add]
    exact .int _
/-! ### enumerate(tuple) -/
set_option maxHeartbeats 1000000 in
theorem meets_enumerate_new1 {v : Value} {o : Obj} {H : Heap → Prop} (B : Begins v o H) :
    Meets (Builtin.«enumerate.__new__» ⟨[.type "enumerate", v], []⟩) (fun _ R s => H s.heap ∧
      R (.ok (.ret (.ref (s.heap.push o).objs.size))) { s with heap := (s.heap.push o).push { cls := .type "enumerate", data := .fields #[.none, .bool false, .ref s.heap.objs.size, rawInt 0, .none, .none] } }) :=
  .of_wp fun prog w A R s h => by
    obtain ⟨hp, g, d, tk, os⟩ := s; obtain ⟨h1, h⟩ := h
    have hsub := sub_enumerate
    have q1 : ∀ {A' : Around} {E : Value → Shared → Prop} {Q : Value → Shared → Prop}, Q (.ref hp.objs.size) ⟨hp.push o, g, d, tk, os⟩ → wpAny (model prog w) A' (pyIter v) Q E ⟨hp, g, d, tk, os⟩ :=
      fun q => B.iter prog w _ _ ⟨hp, g, d, tk, os⟩ _ h1 q
    wp_walk using q1
    refine wpAny_stack_any fun st => wpAny_pure ?_
    split
    · rename_i c _ _ _ _ _
      cases (c == Value.type "enumerate")
      · wp_walk using q1
        exact ⟨_, rfl, h⟩
      · wp_walk using q1
        exact ⟨_, rfl, h⟩
    · wp_walk using q1
      exact ⟨_, rfl, h⟩
theorem enum_begins1 {prog : Program} {w : World} {A : Around} {E : Value → Shared → Prop} {s : Shared} {v : Value} {o : Obj} {H : Heap → Prop} {Q : Value → Shared → Prop} (B : Begins v o H) (h1 : H s.heap)
    (h : ∀ h', IsEnum h' (s.heap.objs.size + 1) s.heap.objs.size 0 .none → h'.get? s.heap.objs.size = some o → h'.objs.size = s.heap.objs.size + 2 →
      (∀ b o, s.heap.get? b = some o → h'.get? b = some o) → Q (.ref (s.heap.objs.size + 1)) { s with heap := h' }) :
    wpAny (model prog w) A (call (.type "enumerate") [v]) Q E s := by
  refine callType_new F.called_enumerate (by decide) (F.typeCall_enumerate_1 _) (F.newCall_enumerate_1 _) (fun obj => F.args_object_init_2 obj _) F.entry_enumerate_new
    (meets_enumerate_new1 B) ⟨h1, ?_⟩
  have hz : (s.heap.push o).objs.size = s.heap.objs.size + 1 := Heap.size_push ..
  show _ ∧ _
  rw [hz]
  have he : IsEnum ((s.heap.push o).push { cls := .type "enumerate", data := .fields #[.none, .bool false, .ref s.heap.objs.size, rawInt 0, .none, .none] }) (s.heap.objs.size + 1) s.heap.objs.size 0 .none := by
    have := Heap.get?_push_size (s.heap.push o) (o := { cls := .type "enumerate", data := .fields #[.none, .bool false, .ref s.heap.objs.size, rawInt 0, .none, .none] }) rfl
    rw [hz] at this; exact this
  refine ⟨⟨_, he, rfl⟩, h _ he (Heap.get?_push_of_some _ (Heap.get?_push_size _ B.free)) (by rw [Heap.size_push, hz]) fun b o x => Heap.get?_push_of_some _ (Heap.get?_push_of_some _ x)⟩
/-- the tuple at a, each item in a new pair -/
def IteT (K : Fg) (a : Addr) : It :=
  ⟨fun i H => ∃ (xs : List V) (x : V), SqT K H a xs ∧ xs[i]? = some x, fun i H v H' => ∃ T x, v = .ref T ∧ H T = none ∧ H' = upd H T (.tup [.int (i : Nat), x]) ∧ ∀ xs, SqT K H a xs → xs[i]? = some x, fun i H => ∃ xs : List V, SqT K H a xs ∧ xs.length ≤ i⟩
theorem turn_enumT {P : Program} {w : World} {K : Fg} {elts : List Expr} {kk : Nat} {tpos : Pos} (a e it : Addr) :
    Turn P w K (.Tuple elts kk tpos) (IteT K a) [e, it] e (fun i h => (∃ old, IsEnum h e it ((i : Nat) : Int) old) ∧ h.IsTupleIter it a i ∧ e ≠ it) where
  mem := by simp
  obj := fun i h st b hb => by
    obtain ⟨⟨old, he⟩, ⟨o, ho, hc, hd⟩, _⟩ := st
    have e' : b = e ∨ b = it := by simpa using hb
    rcases e' with z | z
    · rw [z]; exact ⟨_, he, fun v q => nomatch q⟩
    · rw [z]; exact ⟨o, ho, fun v q => by rw [hd] at q; cases q⟩
  keep := fun i h h' st k => let ⟨⟨old, he⟩, hi, hne⟩ := st; ⟨⟨old, k e (by simp) _ he⟩, hi.at fun o q => k it (by simp) o q, hne⟩
  item := by
    intro X hP hw hK hc i pins s σ H E I hf st hg
    subst hP hw hK
    obtain ⟨⟨old, he⟩, hit, hne⟩ := st
    obtain ⟨xs, x, hq, hx⟩ := hg
    obtain ⟨its, rv, p, hz⟩ := I.tuple hq
    obtain ⟨u, hu, ru⟩ := rv.get hx
    have hel : e < s.heap.objs.size := Heap.lt_size he
    have hil : it < s.heap.objs.size := by obtain ⟨_, q, _⟩ := hit; exact Heap.lt_size q
    have hai : a ≠ it := fun z => by
      obtain ⟨o, ho, hc', _⟩ := hit
      obtain ⟨o2, ho2, hc2, _⟩ := (show s.heap.IsTuple a its.toArray from p)
      rw [z] at ho2
      rw [ho] at ho2
      cases ho2
      rw [hc'] at hc2
      exact absurd hc2 (by decide)
    have hae : e ≠ a := fun z => by
      obtain ⟨o2, ho2, hc2, _⟩ := (show s.heap.IsTuple a its.toArray from p)
      rw [← z] at ho2
      have he' := he
      unfold IsEnum at he'
      rw [he'] at ho2
      cases ho2
      exact absurd hc2 (show ¬ Value.type "enumerate" = Value.type "tuple" by decide)
    have hlt : i < its.toArray.size := by
      have := List.getElem?_eq_some_iff.mp hu
      obtain ⟨h, _⟩ := this
      simpa using h
    refine wpAny_pyNext_enum_itemC (Draws.tuple (A := X.A.in1) (show X.A.in1.handled = none from I.ok.hd hc) it a hai its.toArray) he ⟨hit, p⟩ hlt hne (by simp [hne, hae]) fun x' h' tk hx' ho hit' hT hsz hk => ?_
    obtain ⟨hit', ht'⟩ := hit'
    have ex : x' = u := by
      have h1 : its[i]? = some x' := by simpa using hx'
      rw [h1] at hu
      exact Option.some.inj hu
    subst ex
    refine ⟨_, rfl, wpAny_letOwnedTupleGo_enum (s := { s with heap := h', toks := tk + 1 }) ho fun h'' he' sb => ?_⟩
    have hT2 : h''.get? s.heap.objs.size = some { cls := .type "tuple", data := .seq #[.int i tk, x'] } := (sb.2 _ (Nat.ne_of_gt hel)).trans hT
    have new : ObjOk X.prog X.w (upd H s.heap.objs.size (.tup [.int (i : Nat), x])) h'' s.heap.objs.size (.tup [.int (i : Nat), x]) :=
      ⟨by show 2 ≤ sizeLine; decide, [.int i tk, x'], .cons ⟨_, rfl⟩ (.cons ru .nil), ⟨_, hT2, rfl, _, rfl⟩⟩
    have I1 : Inv X pins σ (upd H s.heap.objs.size (.tup [.int (i : Nat), x])) { s with heap := h'', toks := tk + 1 } :=
      I.turnedNew (ch := [e, it]) (fun b ob hb q => (sb.2 b (fun z => hb (by simp [z]))).trans (hk b ob (fun z => hb (by simp [z])) (fun z => hb (by simp [z])) q)) hf (Nat.le_refl _) new
    refine ⟨.ref s.heap.objs.size, _, I1, rfl, ⟨_, x, rfl, I.hok.fresh (Nat.le_refl _), rfl, fun ys hy => by rw [I.tuple_inj hy hq]; exact hx⟩, ⟨⟨x', ?_⟩, hit'.at fun o q => (sb.2 it (Ne.symm hne)).trans q, hne⟩, fun b hb => ?_⟩
    · have e1 : ((i + 1 : Nat) : Int) = (i : Int) + 1 := by omega
      rw [e1]; exact he'
    · have hb' : b < s.heap.objs.size := by
        have e' : b = e ∨ b = it := by simpa using hb
        rcases e' with z | z
        · rw [z]; exact hel
        · rw [z]; exact hil
      rw [upd_ne (Nat.ne_of_lt hb')]
      exact (hf b hb).1
  done := by
    intro X hP hw hK hc i pins s σ H E I hf st hg
    subst hP hw hK
    obtain ⟨⟨old, he⟩, hit, hne⟩ := st
    obtain ⟨xs, hq, hx⟩ := hg
    obtain ⟨its, rv, p, hz⟩ := I.tuple hq
    have hai : a ≠ it := fun z => by
      obtain ⟨o, ho, hc', _⟩ := hit
      obtain ⟨o2, ho2, hc2, _⟩ := (show s.heap.IsTuple a its.toArray from p)
      rw [z] at ho2
      rw [ho] at ho2
      cases ho2
      rw [hc'] at hc2
      exact absurd hc2 (by decide)
    obtain ⟨f0, f1, f2, f3, f4, f5⟩ := hf it (by simp)
    have hl := rv.length
    have h0 := I.ok.hd hc
    have hT : s.TypeIs (.ref e) "enumerate" := ⟨_, he, rfl⟩
    unfold pyNext
    refine wpAny_bind (wpAny_attempt (wpAny_callSpecial?_slot (name := Str.ofString "__next__") hT F.slot_enumerate_next
      (wpAny_call_entry F.slot_enumerate_next hT F.entry_enumerate_next ?_ (F.args_enumerate_next_1 _))))
    show wpAny _ _ (field (.ref e) 2 >>= _) _ _ _
    refine wpAny_bind (wpAny_field he rfl (x := .ref it) rfl ?_)
    refine wpAny_bind (wpAny_nextOf_tuple_end (A := X.A.in1) (show X.A.in1.handled = none from h0) hit p (by simp; omega) fun h' x eb hx' => ?_)
    obtain ⟨o, ho, hc⟩ := hx'
    refine wpAny_bind (wpAny_isInstance (T := "StopIteration") (b := true) ⟨o, ho, hc⟩ isSubtype_stop ?_)
    exact wpAny_pure ⟨rfl, I.turned (t' := s.toks) (fun b o hb q => eb b o hb q) f0 f1 f3 f4 f5⟩
  self := fun A i s Q E st h => let ⟨⟨_, he⟩, _⟩ := st; wpAny_pyIter_enum he h
def iEnumE (K : Fg) (ta : TA) : TI := fun σ H R => ta σ H fun vs H1 => ∃ a, vs = [.ref a] ∧ ((∃ xs, SqL K H1 a xs ∧ R (Ite K a) H1) ∨ ∃ xs, SqT K H1 a xs ∧ R (IteT K a) H1)
theorem pi_enumE {X : Cx} {e : Expr} {ta : TA} {p pos tpos : Pos} {elts : List Expr} {kk : Nat} (hg : Gl X "enumerate") (hm : X.mg "enumerate" = none) (ha : PA X [e] ta) (hs : starEach [e] X.env = [(false, eval e X.env)] := by rfl) :
    PI X (.Tuple elts kk tpos) (.Call (.Name "enumerate" p) [e] [] pos) (iEnumE X.K ta) := by
  refine ⟨fun pins s σ H R I h => ?_⟩
  refine Call_ (ld_blt I hg hm boot_enumerate (PyProof.Rows.callWith_type1 (thn (ha.run pos pins s σ H _ I h) fun us s1 ⟨vs, H1, I1, r1, q1⟩ => ?_) hs rfl))
  obtain ⟨a, ex, q⟩ := q1
  subst ex
  cases r1 with
  | cons r rr =>
    cases rr
    cases r
    have fpo : ∀ b ∈ [s1.heap.objs.size + 1, s1.heap.objs.size], s1.heap.objs.size ≤ b := fun b hb => by
      have e' : b = s1.heap.objs.size + 1 ∨ b = s1.heap.objs.size := by simpa using hb
      rcases e' with z | z
      · rw [z]; exact Nat.le_add_right _ _
      · rw [z]; exact Nat.le_refl _
    rcases q with ⟨xs, hq, q⟩ | ⟨xs, hq, q⟩
    · obtain ⟨its, rv, p', hz⟩ := I1.list hq
      refine call_enumerate_list p'.isList fun h' he hit hsz hk => wpAny_pyIter_enum he ?_
      have I2 : Inv X pins σ H1 { s1 with heap := h' } := I1.kept (t' := s1.toks) hk
      exact ⟨s1.heap.objs.size + 1, [s1.heap.objs.size + 1, s1.heap.objs.size], _, _, H1, rfl, I2, turn_enum a (s1.heap.objs.size + 1) s1.heap.objs.size, ⟨⟨.none, he⟩, hit, Nat.succ_ne_self _⟩, fun b hb => I1.fpOk (fpo b hb) (I1.hok.fresh (fpo b hb)), q⟩
    · obtain ⟨its, rv, p', hz⟩ := I1.tuple hq
      refine enum_begins1 (begins_tuple a its.toArray) p' fun h' he hit hsz hk => wpAny_pyIter_enum he ?_
      have I2 : Inv X pins σ H1 { s1 with heap := h' } := I1.kept (t' := s1.toks) hk
      exact ⟨s1.heap.objs.size + 1, [s1.heap.objs.size + 1, s1.heap.objs.size], _, _, H1, rfl, I2, turn_enumT a (s1.heap.objs.size + 1) s1.heap.objs.size, ⟨⟨.none, he⟩, ⟨_, hit, rfl, rfl⟩, Nat.succ_ne_self _⟩, fun b hb => I1.fpOk (fpo b hb) (I1.hok.fresh (fpo b hb)), q⟩
theorem itd_enumT {K : Fg} {a : Addr} {ds : List D} : ItD K (IteT K a) ds.length (fun O H => B2 K O H (.ref a) (.tup ds)) (enumD 0 ds) where
  len := enumD_len 0 ds
  go := fun i O H h hi => by
    obtain ⟨a', vs, e, h1, r⟩ := h.tup
    cases e
    have : i < vs.length := by rw [r.length]; exact hi
    exact ⟨vs, vs[i], SqT.of h1, by simp [this]⟩
  stop := fun O H h => by
    obtain ⟨a', vs, e, h1, r⟩ := h.tup
    cases e
    exact ⟨vs, SqT.of h1, by rw [r.length]; exact Nat.le_refl _⟩
  yld := fun i O H x H' h hi y => by
    obtain ⟨a', vs, e, h1, r⟩ := h.tup
    cases e
    obtain ⟨T, x', rfl, hT, rfl, hy⟩ := y
    obtain ⟨d, hd, hr⟩ := r.getV (hy vs (SqT.of h1))
    refine ⟨_, enumD_get 0 ds i d hd, .inr ⟨T, _, _, rfl, hT, rfl, .cons ?_ (.cons hr .nil), rfl⟩⟩
    rw [Nat.zero_add]
    exact .int _
def mEnum (ma : DTE) : DTI := fun Γ Q => ma Γ fun r Γ1 => ∃ d ds, rd Γ1 r = some d ∧ itemsOf d = some ds ∧ Q (srcOf d r) (enumD 0 ds) Γ1
theorem di_enum {X : Cx} {C : Ctx} {ta : TE} {ma : DTE} {a : Expr} {elts : List Expr} {kk : Nat} {p pos tpos : Pos} (hg : Gl X "enumerate") (hm : X.mg "enumerate" = none) (ha : DE X C a ta ma) (hs : starEach [a] X.env = (false, eval a X.env) :: starEach [] X.env := by rfl) (hs2 : starEach [a] X.env = [(false, eval a X.env)] := by rfl) {K0 : Fg} (hK0 : X.K = K0 := by rfl) (hK : K0 = C.K := by rfl) :
    DI X C (.Tuple elts kk tpos) (.Call (.Name "enumerate" p) [a] [] pos) (iEnumE K0 (tCons ta tNil)) (mEnum ma) := by
  subst hK0
  exact (⟨pi_enumE hg hm (pa_cons ha.pe pa_nil hs) hs2, fun Γ O σ H Qd R hR h k => ha.sim Γ O σ H _ _ hR h fun r Γ1 v H1 R1 e1 q1 => by
    obtain ⟨d, ds, hd, hi, q⟩ := q1
    unfold itemsOf at hi
    split at hi
    · cases hi
      obtain ⟨a, vs, rfl, e, _⟩ := (R1.pend.b2 R1.rel hd).lst
      refine ⟨a, rfl, .inl ⟨vs, SqL.of e, ?_⟩⟩
      rw [hK]
      exact k _ _ Γ1 _ H1 _ _ R1.rel e1.1 itd_enum (src_of R1 hd fun _ _ h => h) q
    · cases hi
      obtain ⟨a, vs, rfl, e, _⟩ := (R1.pend.b2 R1.rel hd).tup
      refine ⟨a, rfl, .inr ⟨vs, SqT.of e, ?_⟩⟩
      rw [hK]
      exact k _ _ Γ1 _ H1 _ _ R1.rel e1.1 itd_enumT (src_of R1 hd fun _ _ h => h) q
    · cases hi⟩)
end DL
/-! the data layer, part 14: short words for the printed derivations -/
namespace DL
open PySem PySem.Spec PyProof.Rows L2
theorem room100 {k : Nat} {A : Around} (r : Room k A) : A.units + 100 < cLine := by have := r.un; omega
structure DF (X : Cx) (C : Ctx) (ifs : List Expr) (t : TT) (m : DTT) : Prop where
  pts : PTs X ifs t
  sim : SimT C t m
section
variable {X : Cx} {C : Ctx} {elt tg iter c : Expr} {pos : Pos} {wi : TI} {g : TG} {tt : TT} {te : TE} {mi : DTI} {mg : DTG} {mt : DTT} {me : DTE} {ifs : List Expr} {scope : Scope} {own : List (Str × Nat)}
theorem df_nil : DF X C [] tYes mYes := ⟨pts_nil, sim_yes⟩
theorem df_one {t : TT} {m : DTT} (h : DT X C c t m) : DF X C [c] t m := ⟨pts_one h.pt, h.sim⟩
/-- the parts of a comprehension -/
structure DL1 (X : Cx) (C : Ctx) (elt tg iter : Expr) (ifs : List Expr) (scope : Scope) (own : List (Str × Nat)) (wi : TI) (g : TG) (tt : TT) (te : TE) (mi : DTI) (mg : DTG) (mt : DTT) (me : DTE) : Prop where
  calm : X.calm = true
  nd : X.N.Nodup
  hi : DI X C tg iter wi mi
  ok : BlkOk X.N X.env.scope scope own
  hg : ∀ (U : List (Addr × HO)) (s : Shared) (H : Hp) (A : Addr) (cl : List (Str × Addr)) (fp : List Addr), DG (X.blk s H scope (compEnvC scope cl A X.env) fp) { C with U := U } tg g mg
  hgo : OwnG g (own.map (·.2))
  hgm : ∀ (v : V) (σ : L2.St) (H : Hp) (Q Q' : L2.St → Hp → Prop), (∀ σ H, Q σ H → Q' σ H) → g v σ H Q → g v σ H Q'
  ht : ∀ (U : List (Addr × HO)) (s : Shared) (H : Hp) (A : Addr) (cl : List (Str × Addr)) (fp : List Addr), DF (X.blk s H scope (compEnvC scope cl A X.env) fp) { C with U := U } ifs tt mt
  he : ∀ (U : List (Addr × HO)) (s : Shared) (H : Hp) (A : Addr) (cl : List (Str × Addr)) (fp : List Addr), DE (X.blk s H scope (compEnvC scope cl A X.env) fp) { C with U := U } elt te me
theorem DL1.sim (h : DL1 X C elt tg iter ifs scope own wi g tt te mi mg mt me) (s : Shared) : SimE C (tLc wi g tt te (own.map (·.2))) (mComp mi mg mt me (own.map (·.2))) :=
  sim_comp h.hi.sim (fun U => (h.hg U s (fun _ => none) 0 [] []).sim) h.hgo (fun U => (h.ht U s (fun _ => none) 0 [] []).sim) (fun U => (h.he U s (fun _ => none) 0 [] []).sim) h.hgm
theorem de_comp (h : DL1 X C elt tg iter ifs scope own wi g tt te mi mg mt me) (hs : ∀ x, foldedSetIterable iter X.env x = pure x := by intro _; rfl) :
    DE X C (.ListComp elt [⟨tg, iter, ifs, 0⟩] scope pos) (tLc wi g tt te (own.map (·.2))) (mComp mi mg mt me (own.map (·.2))) :=
  ⟨pe_lc h.calm h.nd h.hi.pi h.ok (fun s H A cl fp => (h.hg C.U s H A cl fp).pg) (fun s H A cl fp => (h.ht C.U s H A cl fp).pts) (fun s H A cl fp => (h.he C.U s H A cl fp).pe) hs, h.sim X.s_0⟩
theorem ps_comp {i : Nat} {y : Str} {py : Pos} {spos : Pos} (h : DL1 X C elt tg iter ifs scope own wi g tt te mi mg mt me) (hy : X.N[i]? = some y) (hyl : X.env.scope.names.lookup y = some .local)
    (hsw : swapsWith (.ListComp elt [⟨tg, iter, ifs, 0⟩] scope pos) (some (.Name y py)) spos.line X.env = pure true) (hs : ∀ x, foldedSetIterable iter X.env x = pure x := by intro _; rfl) :
    PS X (.Assign [.Name y py] (.ListComp elt [⟨tg, iter, ifs, 0⟩] scope pos) spos) (tAsg (tLc wi g tt te (own.map (·.2))) (gName i)) :=
  ps_setLc h.calm h.nd hy hyl hsw h.hi.pi h.ok (fun s H A cl fp => (h.hg C.U s H A cl fp).pg) (fun s H A cl fp => (h.ht C.U s H A cl fp).pts) (fun s H A cl fp => (h.he C.U s H A cl fp).pe) hs
/-- name = [..], the name a plain local -/
theorem ds_setC {i : Nat} {y : Str} {py : Pos} {spos : Pos} (h : DL1 X C elt tg iter ifs scope own wi g tt te mi mg mt me) (hy : X.N[i]? = some y) (hyl : X.env.scope.names.lookup y = some .local)
    (hsw : swapsWith (.ListComp elt [⟨tg, iter, ifs, 0⟩] scope pos) (some (.Name y py)) spos.line X.env = pure true) (hs : ∀ x, foldedSetIterable iter X.env x = pure x := by intro _; rfl) :
    DS X C (.Assign [.Name y py] (.ListComp elt [⟨tg, iter, ifs, 0⟩] scope pos) spos) (tAsg (tLc wi g tt te (own.map (·.2))) (gName i)) (mSet i (mComp mi mg mt me (own.map (·.2)))) := ds_setS (ps_comp h hy hyl hsw hs) (h.sim X.s_0)
theorem ds_setCO {i : Nat} {y : Str} {py : Pos} {spos : Pos} (h : DL1 X C elt tg iter ifs scope own wi g tt te mi mg mt me) (hy : X.N[i]? = some y) (hyl : X.env.scope.names.lookup y = some .local)
    (hsw : swapsWith (.ListComp elt [⟨tg, iter, ifs, 0⟩] scope pos) (some (.Name y py)) spos.line X.env = pure true) (hs : ∀ x, foldedSetIterable iter X.env x = pure x := by intro _; rfl) :
    DS X C (.Assign [.Name y py] (.ListComp elt [⟨tg, iter, ifs, 0⟩] scope pos) spos) (tAsg (tLc wi g tt te (own.map (·.2))) (gName i)) (mSetO i (mComp mi mg mt me (own.map (·.2)))) := ds_setSO (ps_comp h hy hyl hsw hs) (h.sim X.s_0)
end
/-! comparisons in a chain -/
section
variable {X : Cx} {C : Ctx} {ta tb tc : TE} {ma mb mc : DTE} {a b c : Expr} {pos : Pos}
def mChain (f f' : Int → Int → Bool) (ma mb mc : DTE) : DTE := fun Γ Q => ma Γ fun ra Γ1 => mb Γ1 fun rb Γ2 => ∃ i j, ra = .val (.int i) ∧ rb = .val (.int j) ∧
  if f i j = true then mc Γ2 fun rc Γ3 => ∃ k, rc = .val (.int k) ∧ Q (.val (.bl (f' j k))) Γ3 else Q (.val (.bl false)) Γ2
end
section
variable {P : Program} {w : World} {K : Fg} {mg : Str → Option Value} {base : Heap} {k : Nat} {f : Addr} {fd : FuncData} {ps : List Str}
theorem fn_dm {x qual : Str} {st : Stmt} {N : List Str} {ms : List Md} {sd : DSp} {m : DTS} (F : Fun K x qual st f fd) (S : FnScope N ps (defScope st)) (hl : ms.length = ps.length)
    (hv : ∀ ds Qd Ed, ds.length = ms.length → sd ds Qd Ed → m (endsD ms Qd) (startD N ms ds))
    (body : ∀ (cdv : Value) (A : Around) (outer : List PySem.Env) (s : Shared) (H0 : Hp) (vs : List V) (E : XK) (O : List Addr) (H : Hp), (A.deeper (envOfC qual (defScope st) s.heap.objs.size f cdv)).guards = some [] → Room k (A.deeper (envOfC qual (defScope st) s.heap.objs.size f cdv)) →
      ∃ t, DSs (cxOf (L2.CX P w) P w K mg base N qual (defScope st) f cdv A outer s H0 E).nox (ctx0 K O H ms vs) (defBody st) t m) : FnG P w K mg base (k + 1) f fd ps (spD K ms sd) :=
  fn_d F S hl fun cdv A outer s H0 vs E O H hg hr => by
    obtain ⟨t, d⟩ := body cdv A outer s H0 vs E O H hg hr
    exact ⟨t, m, d, hv⟩
end
/-! comparisons as tests, the fragment named from outside -/
section
variable {X : Cx} {C : Ctx} {a b : Expr} {ta tb : TE} {ma mb : DTE} {pos : Pos}
theorem dt_eq (hu : X.A.units + 64 < cLine) (ha : DE X C a ta ma) (hb : DE X C b tb mb) {K0 : Fg} (hK0 : X.K = K0 := by rfl) (hK : K0 = C.K := by rfl) : DT X C (.Compare a [.Eq] [b] pos) (tTest (tOp (rEqD K0) ta tb)) (mTest (mOp eqD ma mb)) := by
  subst hK0; exact dt_cmp (op_eqD hu) (by rw [hK]; exact sim_eq) ha hb (nomark _)
theorem dt_ne (hu : X.A.units + 64 < cLine) (ha : DE X C a ta ma) (hb : DE X C b tb mb) {K0 : Fg} (hK0 : X.K = K0 := by rfl) (hK : K0 = C.K := by rfl) : DT X C (.Compare a [.NotEq] [b] pos) (tTest (tOp (rNeD K0) ta tb)) (mTest (mOp neD ma mb)) := by
  subst hK0; exact dt_cmp (op_neD hu) (by rw [hK]; exact sim_ne) ha hb (nomark _)
end
end DL
/-! the data layer, part 15: words for what is left of a law: plain data, loops by an invariant, comprehensions by a function -/
namespace DL
open PySem L2
/-! ### lists of numbers -/
abbrev iL (l : List Int) : D := .lst (l.map D.int)
theorem toPys_ints : ∀ l : List Int, toPys (l.map D.int) = l.map PyData.int
  | [] => by simp only [List.map_nil, toPys]
  | x :: l => by rw [List.map_cons, toPys, toPys_ints l, toPy, List.map_cons]
theorem plains_ints : ∀ l : List Int, plains (l.map D.int) = true
  | [] => by simp only [List.map_nil, plains]
  | x :: l => by rw [List.map_cons, plains, plains_ints l, plain]; rfl
theorem lay_ints : ∀ l : List Int, PyData.canLayAll0 (l.map PyData.int) = true
  | [] => by simp only [List.map_nil, PyData.canLayAll0]
  | x :: l => by rw [List.map_cons, PyData.canLayAll0, lay_ints l, PyData.canLay0]; rfl
theorem depth_ints : ∀ l : List Int, PyData.depthAll (l.map PyData.int) = 0
  | [] => by simp only [List.map_nil, PyData.depthAll]
  | x :: l => by rw [List.map_cons, PyData.depthAll, depth_ints l, PyData.depth]; rfl
theorem eqvAll_ints : ∀ l m : List Int, PyData.eqvAll (l.map PyData.int) (m.map PyData.int) = decide (l = m)
  | [], [] => by simp [PyData.eqvAll]
  | [], y :: m => by simp [PyData.eqvAll]
  | x :: l, [] => by simp [PyData.eqvAll]
  | x :: l, y :: m => by
    rw [List.map_cons, List.map_cons, PyData.eqvAll, eqvAll_ints l m, PyData.eqv]
    rw [Bool.eq_iff_iff]
    simp
theorem okE_int (i : Int) : okE (.int i) = true := by simp [okE, plain, toPy, SeqAt.shaped, PyData.canLay0, PyData.depth]
theorem okE_bl (i : Bool) : okE (.bl i) = true := by simp [okE, plain, toPy, SeqAt.shaped, PyData.canLay0, PyData.depth]
theorem okE_ints (l : List Int) : okE (.lst (l.map D.int)) = true := by simp [okE, plain, toPy, SeqAt.shaped, PyData.canLay0, PyData.depth, plains_ints, toPys_ints, lay_ints, depth_ints]
theorem okE_tints (l : List Int) : okE (.tup (l.map D.int)) = true := by simp [okE, plain, toPy, SeqAt.shaped, PyData.canLay0, PyData.depth, plains_ints, toPys_ints, lay_ints, depth_ints]
theorem eqv_int (i j : Int) : eqv (.int i) (.int j) = decide (i = j) := by
  rw [eqv, toPy, toPy, PyData.eqv, Bool.eq_iff_iff]; simp
theorem eqv_bl (i j : Bool) : eqv (.bl i) (.bl j) = decide (i = j) := by
  rw [eqv, toPy, toPy, PyData.eqv, Bool.eq_iff_iff]; simp
theorem eqv_ints (l m : List Int) : eqv (.lst (l.map D.int)) (.lst (m.map D.int)) = decide (l = m) := by
  rw [eqv, toPy, toPy, PyData.eqv, toPys_ints, toPys_ints, eqvAll_ints]
theorem eqv_tints (l m : List Int) : eqv (.tup (l.map D.int)) (.tup (m.map D.int)) = decide (l = m) := by
  rw [eqv, toPy, toPy, PyData.eqv, toPys_ints, toPys_ints, eqvAll_ints]
theorem eqv_ssS (a b : Str) : eqv (.str a) (.str b) = (a == b) := by
  rw [eqv, toPy, toPy, PyData.eqv]
/-- l[i] -/
def ig (l : List Int) (i : Int) : Int := l.getD (if 0 ≤ i then i else i + l.length).toNat 0
theorem atI_ints {l : List Int} {i : Int} (h : -(l.length : Int) ≤ i ∧ i < l.length) : atI (l.map D.int) i = some (.int (ig l i)) := by
  unfold atI ixN ig
  rw [List.length_map]
  by_cases h0 : 0 ≤ i
  · rw [if_pos h0, if_pos h0, if_pos h.2, Option.bind_some, List.getElem?_map, List.getElem?_eq_getElem (by omega)]
    simp [List.getD, List.getElem?_eq_getElem (show i.toNat < l.length by omega)]
  · rw [if_neg h0, if_neg h0, if_pos h.1, Option.bind_some, List.getElem?_map, List.getElem?_eq_getElem (by omega)]
    simp [List.getD, List.getElem?_eq_getElem (show (i + l.length).toNat < l.length by omega)]
theorem ixN_nat {n j : Nat} (h : j < n) : ixN n (j : Int) = some j := by
  unfold ixN
  rw [if_pos (by omega), if_pos (by omega)]
  rfl
theorem ixN_pos {n : Nat} {i : Int} (h0 : 0 ≤ i) (h : i < n) : ixN n i = some i.toNat := by
  unfold ixN
  rw [if_pos h0, if_pos h]
/-! ### repr of numbers -/
theorem Str_len (s : String) : (Str.ofString s).length = s.length := by
  exact ofString_length s
/-! ### loops by an invariant -/
/-- over a list of numbers -/
theorem loop_ints {src : Src} {mg : DTG} {mb : DTS} {K : DEnds} (I : List Int → Env → Prop) (hs : ∀ xs Γ, I xs Γ → srcL Γ src) (hn : ∀ Γ, I [] Γ → K.nx Γ)
    (hc : ∀ x xs Γ (N : Env → Prop), I (x :: xs) Γ → (∀ Γ', I xs Γ' → N Γ') → mg (.int x) Γ fun Γ2 => mb { K with nx := N, ct := N, bk := K.nx } Γ2) : ∀ (items : List Int) (Γ : Env), I items Γ → loopM src mg mb K (items.map D.int) Γ
  | [], Γ, h => ⟨hs _ _ h, hn _ h⟩
  | x :: xs, Γ, h => ⟨hs _ _ h, hc x xs Γ _ h fun Γ' h' => loop_ints I hs hn hc xs Γ' h'⟩
theorem rngD_cons (lo : Int) (n : Nat) : rngD lo (n + 1) = .int lo :: rngD (lo + 1) n := by
  unfold rngD
  rw [List.range_succ_eq_map, List.map_cons, List.map_map]
  congr 1
  · simp
  · apply List.map_congr_left; intro a _; simp; omega
/-- over a range: what holds before turn i -/
theorem loop_rng {src : Src} {mg : DTG} {mb : DTS} {K : DEnds} (hi : Int) (I : Int → Env → Prop) (hs : ∀ i Γ, I i Γ → srcL Γ src) (hn : ∀ Γ, I hi Γ → K.nx Γ)
    (hc : ∀ i Γ (N : Env → Prop), i < hi → I i Γ → (∀ Γ', I (i + 1) Γ' → N Γ') → mg (.int i) Γ fun Γ2 => mb { K with nx := N, ct := N, bk := K.nx } Γ2) : ∀ (n : Nat) (lo : Int) (Γ : Env), lo + n = hi → I lo Γ → loopM src mg mb K (rngD lo n) Γ
  | 0, lo, Γ, e, h => by
    have : lo = hi := by omega
    subst this
    exact ⟨hs _ _ h, hn _ h⟩
  | n + 1, lo, Γ, e, h => by
    rw [rngD_cons]
    exact ⟨hs _ _ h, hc lo Γ _ (by omega) h fun Γ' h' => loop_rng hi I hs hn hc n (lo + 1) Γ' (by omega) h'⟩
/-- enumerate -/
theorem loop_enum {src : Src} {mg : DTG} {mb : DTS} {K : DEnds} (I : Nat → List D → Env → Prop) (hs : ∀ i xs Γ, I i xs Γ → srcL Γ src) (hn : ∀ i Γ, I i [] Γ → K.nx Γ)
    (hc : ∀ i x xs Γ (N : Env → Prop), I i (x :: xs) Γ → (∀ Γ', I (i + 1) xs Γ' → N Γ') → mg (.tup [.int (i : Int), x]) Γ fun Γ2 => mb { K with nx := N, ct := N, bk := K.nx } Γ2) : ∀ (items : List D) (i : Nat) (Γ : Env), I i items Γ → loopM src mg mb K (enumD i items) Γ
  | [], i, Γ, h => by rw [enumD]; exact ⟨hs _ _ _ h, hn _ _ h⟩
  | x :: xs, i, Γ, h => by rw [enumD]; exact ⟨hs _ _ _ h, hc i x xs Γ _ h fun Γ' h' => loop_enum I hs hn hc xs (i + 1) Γ' h'⟩
def cik (acc : List D) (Γ : Env) (vs : List Nat) (N : List D → Env → Prop) (r : Res) (Γ4 : Env) : Prop := ∃ d, dat r = some d ∧ acc.length < 100000 ∧ N (acc ++ [d]) (restD Γ Γ4 vs)
def cfk (Γ : Env) (vs : List Nat) (N : Option D → Env → Prop) (r : Res) (Γ4 : Env) : Prop := ∃ d, dat r = some d ∧ N (some d) (restD Γ Γ4 vs)
theorem c_ik {acc : List D} {Γ Γ4 Γ' : Env} {vs : List Nat} {N : List D → Env → Prop} {r : Res} {d : D} (h1 : dat r = some d) (h2 : acc.length < 100000) (h3 : restD Γ Γ4 vs = Γ') (h : N (acc ++ [d]) Γ') : cik acc Γ vs N r Γ4 := ⟨_, h1, h2, by rw [h3]; exact h⟩
theorem c_fk {Γ Γ4 Γ' : Env} {vs : List Nat} {N : Option D → Env → Prop} {r : Res} {d : D} (h1 : dat r = some d) (h3 : restD Γ Γ4 vs = Γ') (h : N (some d) Γ') : cfk Γ vs N r Γ4 := ⟨_, h1, by rw [h3]; exact h⟩
/-- a comprehension that leaves the slots alone: by a function -/
theorem comp_fn {src : Src} {mg : DTG} {mt : DTT} {me : DTE} {vs : List Nat} {Q : List D → Env → Prop} {Γ : Env} (g : D → Option D) (hs : srcD Γ src) (ho : okOwn Γ vs = true) :
    ∀ (items acc : List D), (∀ x ∈ items, ∀ (N : Option D → Env → Prop), N (g x) Γ → mg x (wipeD Γ vs) fun Γ2 => mt Γ2 fun b Γ3 => if b = true then me Γ3 (cfk Γ vs N) else N none (restD Γ Γ3 vs)) → acc.length + items.length ≤ 100000 → Q (acc ++ items.filterMap g) Γ → compM src mg mt me vs Q items acc Γ
  | [], acc, _, _, hq => ⟨hs, by rw [List.filterMap_nil, List.append_nil] at hq; exact hq⟩
  | x :: xs, acc, h, hl, hq => by
    refine ⟨hs, ho, ?_⟩
    have hl' : acc.length + (xs.length + 1) ≤ 100000 := hl
    refine h x (List.mem_cons_self ..) (fun o Γ' => match o with
      | some d => acc.length < 100000 ∧ compM src mg mt me vs Q xs (acc ++ [d]) Γ'
      | none => compM src mg mt me vs Q xs acc Γ') ?_
    cases hg : g x with
    | some d =>
      rw [List.filterMap_cons_some hg] at hq
      refine ⟨by omega, comp_fn g hs ho xs (acc ++ [d]) (fun y hy => h y (List.mem_cons_of_mem _ hy)) (by rw [List.length_append, List.length_singleton]; omega) ?_⟩
      rw [List.append_assoc]; exact hq
    | none =>
      rw [List.filterMap_cons_none hg] at hq
      exact comp_fn g hs ho xs acc (fun y hy => h y (List.mem_cons_of_mem _ hy)) (by omega) hq
/-- a comprehension by an invariant -/
theorem comp_inv {src : Src} {mg : DTG} {mt : DTT} {me : DTE} {vs : List Nat} {Q : List D → Env → Prop} (I : List D → List D → Env → Prop) (hs : ∀ xs acc Γ, I xs acc Γ → srcD Γ src ∧ okOwn Γ vs = true) (hn : ∀ acc Γ, I [] acc Γ → Q acc Γ)
    (hc : ∀ x xs acc Γ (N : List D → Env → Prop), I (x :: xs) acc Γ → (∀ acc' Γ', I xs acc' Γ' → N acc' Γ') → mg x (wipeD Γ vs) fun Γ2 => mt Γ2 fun b Γ3 => if b = true then me Γ3 (cik acc Γ vs N) else N acc (restD Γ Γ3 vs)) :
    ∀ (items acc : List D) (Γ : Env), I items acc Γ → compM src mg mt me vs Q items acc Γ
  | [], acc, Γ, h => ⟨(hs _ _ _ h).1, hn _ _ h⟩
  | x :: xs, acc, Γ, h => ⟨(hs _ _ _ h).1, (hs _ _ _ h).2, hc x xs acc Γ (fun a g => compM src mg mt me vs Q xs a g) h fun a' Γ' h' => comp_inv I hs hn hc xs a' Γ' h'⟩
/-! ### the bag of a law -/
def BagD (b : D) : Prop := ∃ (big seed pos : Int) (cells : List Int), b = .lst [.int big, .int seed, .int pos, .lst (cells.map D.int)] ∧ 0 ≤ big ∧ 0 ≤ seed ∧ seed < 2147483647 ∧ 0 ≤ pos ∧ ∀ c ∈ cells, 0 ≤ c
/-- what a draw promises -/
def takeD : DSp := fun ds Q _ => ∃ b many, ds = [b, .int many] ∧ BagD b ∧ 0 < many ∧ many < 2 ^ 256 ∧ ∀ k b', 0 ≤ k → k < many → BagD b' → Q false (.int k) [b']
/-- what the making of the bag promises -/
def bagD : DSp := fun ds Q _ => ∃ ns : List Int, ds = [.scr (ns.map D.int)] ∧ ∀ b, BagD b → Q true b []
/-! ### one statement at a time -/
theorem atI_0 {α : Type} {a : α} {l : List α} : atI (a :: l) 0 = some a := by
  unfold atI ixN
  rw [if_pos (by decide), if_pos (by rw [List.length_cons]; omega)]
  rfl
theorem atI_1 {α : Type} {a b : α} {l : List α} : atI (a :: b :: l) 1 = some b := by
  unfold atI ixN
  rw [if_pos (by decide), if_pos (by rw [List.length_cons, List.length_cons]; omega)]
  rfl
theorem atI_2 {α : Type} {a b c : α} {l : List α} : atI (a :: b :: c :: l) 2 = some c := by
  unfold atI ixN
  rw [if_pos (by decide), if_pos (by rw [List.length_cons, List.length_cons, List.length_cons]; omega)]
  rfl
theorem atI_3 {α : Type} {a b c d : α} {l : List α} : atI (a :: b :: c :: d :: l) 3 = some d := by
  unfold atI ixN
  rw [if_pos (by decide), if_pos (by rw [List.length_cons, List.length_cons, List.length_cons, List.length_cons]; omega)]
  rfl
theorem ixN_0 {n : Nat} : ixN (n + 1) 0 = some 0 := by
  unfold ixN
  rw [if_pos (by decide), if_pos (by omega)]; rfl
theorem ixN_1 {n : Nat} : ixN (n + 2) 1 = some 1 := by
  unfold ixN
  rw [if_pos (by decide), if_pos (by omega)]; rfl
theorem ixN_2 {n : Nat} : ixN (n + 3) 2 = some 2 := by
  unfold ixN
  rw [if_pos (by decide), if_pos (by omega)]; rfl
theorem ixN_3 {n : Nat} : ixN (n + 4) 3 = some 3 := by
  unfold ixN
  rw [if_pos (by decide), if_pos (by omega)]; rfl
theorem mulOk_r {i j : Int} (h1 : -(2 ^ 64) < j) (h2 : j < 2 ^ 64) : MulOk i j := .inl (.inr ⟨h1, h2⟩)
theorem mulOk_l {i j : Int} (h1 : -(2 ^ 64) < i) (h2 : i < 2 ^ 64) : MulOk i j := .inl (.inl ⟨h1, h2⟩)
theorem divW_of {i j : Int} (h1 : 0 < j) (h2 : j < 2 ^ 256) : CDivW i j := by
  refine ⟨h1, ?_⟩
  have h3 : j.natAbs < 2 ^ 256 := by omega
  have h4 : j.natAbs ≠ 0 := by omega
  have h5 := (Nat.log2_lt h4 (k := 256)).mpr h3
  omega
/-! the ends, kept folded -/
def rtD (ms : List Md) (Qd : Bool → D → List D → Prop) : Res → Env → Prop := (endsD ms Qd).rt
theorem endsD_mk {ms : List Md} {Qd : Bool → D → List D → Prop} : endsD ms Qd = .mk (fun Γ => Qd false .non (iosD ms Γ)) (rtD ms Qd) (fun _ => False) (fun _ => False) := rfl
theorem cut {m n : DTS} {a : Env → Prop} {b : Res → Env → Prop} {c d : Env → Prop} {Γ : Env} (P : Env → Prop) (h1 : ∀ N : Env → Prop, (∀ Γ', P Γ' → N Γ') → m (.mk N b c d) Γ) (h2 : ∀ Γ', P Γ' → n (.mk a b c d) Γ') : mSeqS m n (.mk a b c d) Γ := h1 (n (.mk a b c d)) h2
end DL
/-! the data layer, part 16: one step of a reading at a time -/
namespace DL
open PySem L2
section
variable {Γ Γ' : Env} {Q : QE} {i : Nat} {d e : D} {ma mb mc : DTE} {mr : DTA} {f : D → D → (Res → Prop) → Prop} {g : List D → (Res → Prop) → Prop} {r r2 : Res} {rs : List Res} {ds : List D} {b : Bool}
theorem e_C (h : Q (.val d) Γ) : mC d Γ Q := h
def vq (s : Sl) (i : Nat) (Γ : Env) (Q : QE) : Prop := match s with
    | .sh d => Q (.val d) Γ
    | .ow _ => Q (.pl i) Γ
    | .io _ => Q (.pl i) Γ
    | .bo _ => Q (.pl i) Γ
    | _ => False
theorem e_V {s : Sl} (hs : Γ[i]? = some s) (h : vq s i Γ Q) : mVar i Γ Q := by
  unfold mVar
  rw [hs]
  cases s <;> exact h
theorem v_sh (h : Q (.val d) Γ) : vq (.sh d) i Γ Q := h
theorem v_ow (h : Q (.pl i) Γ) : vq (.ow d) i Γ Q := h
theorem v_io (h : Q (.pl i) Γ) : vq (.io d) i Γ Q := h
theorem v_bo (h : Q (.pl i) Γ) : vq (.bo d) i Γ Q := h
def op2 (f : D → D → (Res → Prop) → Prop) (Γ : Env) (ra rb : Res) (Q : QE) : Prop := ∃ a b, rd Γ ra = some a ∧ rd Γ rb = some b ∧ f a b fun r => Q r Γ
theorem e_op (h : ma Γ fun ra Γ1 => mb Γ1 fun rb Γ2 => op2 f Γ2 ra rb Q) : mOp f ma mb Γ Q := h
theorem e_op2 (h1 : rd Γ r = some d) (h2 : rd Γ r2 = some e) (h : f d e fun r => Q r Γ) : op2 f Γ r r2 Q := ⟨_, _, h1, h2, h⟩
def op1 (f : D → (Res → Prop) → Prop) (Γ : Env) (ra : Res) (Q : QE) : Prop := ∃ a, rd Γ ra = some a ∧ f a fun r => Q r Γ
theorem e_un {f : D → (Res → Prop) → Prop} (h : ma Γ fun ra Γ1 => op1 f Γ1 ra Q) : mUn f ma Γ Q := h
theorem e_op1 {f : D → (Res → Prop) → Prop} (h1 : rd Γ r = some d) (h : f d fun r => Q r Γ) : op1 f Γ r Q := ⟨_, h1, h⟩
def tst (r : Res) (Γ : Env) (Q : Bool → Env → Prop) : Prop := ∃ b, r = .val (.bl b) ∧ Q b Γ
theorem e_test {Q : Bool → Env → Prop} (h : ma Γ fun r Γ1 => tst r Γ1 Q) : mTest ma Γ Q := h
theorem e_tst {Q : Bool → Env → Prop} (h : Q b Γ) : tst (.val (.bl b)) Γ Q := ⟨_, rfl, h⟩
def andv (r : Res) (Γ : Env) (mb : DTE) (Q : QE) : Prop := ∃ b, r = .val (.bl b) ∧ if b = true then mb Γ Q else Q (.val (.bl false)) Γ
def orv (r : Res) (Γ : Env) (mb : DTE) (Q : QE) : Prop := ∃ b, r = .val (.bl b) ∧ if b = true then Q (.val (.bl true)) Γ else mb Γ Q
def notv (r : Res) (Γ : Env) (Q : QE) : Prop := ∃ b, r = .val (.bl b) ∧ Q (.val (.bl (!b))) Γ
theorem e_andV (h : ma Γ fun r Γ1 => andv r Γ1 mb Q) : mAndV ma mb Γ Q := h
theorem e_orV (h : ma Γ fun r Γ1 => orv r Γ1 mb Q) : mOrV ma mb Γ Q := h
theorem e_notV (h : ma Γ fun r Γ1 => notv r Γ1 Q) : mNotV ma Γ Q := h
theorem e_andv (h : if b = true then mb Γ Q else Q (.val (.bl false)) Γ) : andv (.val (.bl b)) Γ mb Q := ⟨_, rfl, h⟩
theorem e_orv (h : if b = true then Q (.val (.bl true)) Γ else mb Γ Q) : orv (.val (.bl b)) Γ mb Q := ⟨_, rfl, h⟩
theorem e_notv (h : Q (.val (.bl (!b))) Γ) : notv (.val (.bl b)) Γ Q := ⟨_, rfl, h⟩
theorem e_and {ma mb : DTT} {Q : Bool → Env → Prop} (h : ma Γ fun b Γ1 => if b = true then mb Γ1 Q else Q false Γ1) : mAnd ma mb Γ Q := h
theorem e_or {ma mb : DTT} {Q : Bool → Env → Prop} (h : ma Γ fun b Γ1 => if b = true then Q true Γ1 else mb Γ1 Q) : mOr ma mb Γ Q := h
theorem e_not {ma : DTT} {Q : Bool → Env → Prop} (h : ma Γ fun b Γ1 => Q (!b) Γ1) : mNot ma Γ Q := h
theorem e_if {mt : DTT} (h : mt Γ fun b Γ1 => if b = true then ma Γ1 Q else mb Γ1 Q) : mIf mt ma mb Γ Q := h
theorem e_ite {b : Bool} {x y : Prop} (h1 : b = true → x) (h2 : b = false → y) : if b = true then x else y := by
  cases b with
  | true => exact h1 rfl
  | false => exact h2 rfl
theorem e_Tt {x y : Prop} (h1 : x) : if true = true then x else y := h1
theorem e_Ff {x y : Prop} (h1 : y) : if false = true then x else y := h1
theorem e_nTt {x y : Prop} (h1 : y) : if (!true) = true then x else y := h1
theorem e_nFf {x y : Prop} (h1 : x) : if (!false) = true then x else y := h1
theorem e_T {b : Bool} {x y : Prop} (h : b = true) (h1 : x) : if b = true then x else y := by rw [if_pos h]; exact h1
theorem e_F {b : Bool} {x y : Prop} (h : b = false) (h1 : y) : if b = true then x else y := by subst h; exact h1
theorem e_dT {p x y : Prop} [Decidable p] (h : p) (h1 : x) : if decide p = true then x else y := e_T (decide_eq_true h) h1
theorem e_dF {p x y : Prop} [Decidable p] (h : ¬ p) (h1 : y) : if decide p = true then x else y := e_F (decide_eq_false h) h1
theorem e_nT {p x y : Prop} [Decidable p] (h : p) (h1 : y) : if (!decide p) = true then x else y := e_F (by rw [decide_eq_true h]; rfl) h1
theorem e_nF {p x y : Prop} [Decidable p] (h : ¬ p) (h1 : x) : if (!decide p) = true then x else y := e_T (by rw [decide_eq_false h]; rfl) h1
theorem e_dif {p x y : Prop} [Decidable p] (h1 : p → x) (h2 : ¬ p → y) : if decide p = true then x else y := e_ite (fun h => h1 (of_decide_eq_true h)) fun h => h2 (of_decide_eq_false h)
theorem e_nif {p x y : Prop} [Decidable p] (h1 : ¬ p → x) (h2 : p → y) : if (!decide p) = true then x else y := e_ite (fun h => h1 (by simpa using h)) fun h => h2 (by simpa using h)
theorem e_nil {Q : List Res → Env → Prop} (h : Q [] Γ) : mNil Γ Q := h
theorem e_cons {Q : List Res → Env → Prop} (h : ma Γ fun r Γ1 => mr Γ1 fun rs Γ2 => Q (r :: rs) Γ2) : mCons ma mr Γ Q := h
def cbk (f : List D → (Res → Prop) → Prop) (Γ : Env) (rs : List Res) (Q : QE) : Prop := ∃ ds, rds Γ rs = some ds ∧ f ds fun r => Q r Γ
theorem e_CB (h : mr Γ fun rs Γ1 => cbk g Γ1 rs Q) : mCB g mr Γ Q := h
theorem e_cb (h1 : rds Γ rs = some ds) (h : g ds fun r => Q r Γ) : cbk g Γ rs Q := ⟨_, h1, h⟩
def lsk (Γ : Env) (rs : List Res) (Q : QE) : Prop := ∃ ds, dats rs = some ds ∧ ds.length ≤ 100000 ∧ Q (.fr (.lst ds)) Γ
def tpk (Γ : Env) (rs : List Res) (Q : QE) : Prop := ∃ ds, dats rs = some ds ∧ ds.length ≤ 100000 ∧ Q (.val (.tup ds)) Γ
theorem e_Lst (h : mr Γ fun rs Γ1 => lsk Γ1 rs Q) : mLst mr Γ Q := h
theorem e_Tup (h : mr Γ fun rs Γ1 => tpk Γ1 rs Q) : mTup mr Γ Q := h
theorem e_lst (h1 : dats rs = some ds) (h2 : ds.length ≤ 100000) (h : Q (.fr (.lst ds)) Γ) : lsk Γ rs Q := ⟨_, h1, h2, h⟩
theorem e_tup (h1 : dats rs = some ds) (h2 : ds.length ≤ 100000) (h : Q (.val (.tup ds)) Γ) : tpk Γ rs Q := ⟨_, h1, h2, h⟩
def slk (f : D → Option Int → Option Int → (Res → Prop) → Prop) (Γ : Env) (r : Res) (lo hi : Option Int) (Q : QE) : Prop := ∃ d, rd Γ r = some d ∧ f d lo hi fun r => Q r Γ
theorem e_Sl {f : D → Option Int → Option Int → (Res → Prop) → Prop} {ml mh : Env → (Option Int → Env → Prop) → Prop} (h : ma Γ fun r Γ1 => ml Γ1 fun lo Γ2 => mh Γ2 fun hi Γ3 => slk f Γ3 r lo hi Q) : mSl f ma ml mh Γ Q := h
theorem e_sl {f : D → Option Int → Option Int → (Res → Prop) → Prop} {lo hi : Option Int} (h1 : rd Γ r = some d) (h : f d lo hi fun r => Q r Γ) : slk f Γ r lo hi Q := ⟨_, h1, h⟩
theorem e_noP {Q : Option Int → Env → Prop} (h : Q none Γ) : mNoP Γ Q := h
def prk (r : Res) (Γ : Env) (Q : Option Int → Env → Prop) : Prop := ∃ i, r = .val (.int i) ∧ Q (some i) Γ
theorem e_Part {Q : Option Int → Env → Prop} (h : ma Γ fun r Γ1 => prk r Γ1 Q) : mPart ma Γ Q := h
theorem e_part {Q : Option Int → Env → Prop} {i : Int} (h : Q (some i) Γ) : prk (.val (.int i)) Γ Q := ⟨_, rfl, h⟩
theorem i_slL {lo hi : Option Int} {Q : Res → Prop} (h : Q (.fr (.lst (DL.cutD ds lo hi)))) : slD (.lst ds) lo hi Q := h
theorem i_slC {lo hi : Option Int} {Q : Res → Prop} (h : Q (.fr (.lst (DL.cutD ds lo hi)))) : slD (.scr ds) lo hi Q := h
def rvk (r : Res) (Γ : Env) (Q : QE) : Prop := ∃ ds, rd Γ r = some (.lst ds) ∧ Q (.fr (.lst ds.reverse)) Γ
theorem e_RevL (h : ma Γ fun r Γ1 => rvk r Γ1 Q) : mRevL ma Γ Q := h
theorem e_revL (h1 : rd Γ r = some (.lst ds)) (h : Q (.fr (.lst ds.reverse)) Γ) : rvk r Γ Q := ⟨_, h1, h⟩
def isk (T : String) (r : Res) (Γ : Env) (Q : QE) : Prop := ∃ d, rd Γ r = some d ∧ (tyN d).isSome = true ∧ Q (.val (.bl (isTy T d))) Γ
theorem e_Isi {T : String} (h : ma Γ fun r Γ1 => isk T r Γ1 Q) : mIsi T ma Γ Q := h
theorem e_isi {T : String} (h1 : rd Γ r = some d) (h2 : (tyN d).isSome = true) (h3 : isTy T d = b) (h : Q (.val (.bl b)) Γ) : isk T r Γ Q := ⟨_, h1, h2, by rw [h3]; exact h⟩
theorem e_isiT {T : String} (h1 : rd Γ r = some d) (h2 : (tyN d).isSome = true) (h3 : isTy T d = true) (h : Q (.val (.bl true)) Γ) : isk T r Γ Q := e_isi h1 h2 h3 h
theorem e_isiF {T : String} (h1 : rd Γ r = some d) (h2 : (tyN d).isSome = true) (h3 : isTy T d = false) (h : Q (.val (.bl false)) Γ) : isk T r Γ Q := e_isi h1 h2 h3 h
/-! calls -/
def clk (ms : List Md) (sd : DSp) (Γ : Env) (rs : List Res) (Q : QE) : Prop := ∃ ds, argsD Γ ms rs = some ds ∧ apartB ms rs = true ∧ sd ds (fun b d ds' => ∃ Γ2, putsD (mPls ms rs) ds' Γ = some Γ2 ∧ Q (if b = true then frOf d else .val d) Γ2) noX
def ptk (is : List Nat) (Γ : Env) (Q : QE) : Bool → D → List D → Prop := fun b d ds' => ∃ Γ2, putsD is ds' Γ = some Γ2 ∧ Q (if b = true then frOf d else .val d) Γ2
theorem e_Call {ms : List Md} {sd : DSp} (h : mr Γ fun rs Γ1 => clk ms sd Γ1 rs Q) : mCall ms sd mr Γ Q := h
theorem e_call {ms : List Md} {sd : DSp} {is : List Nat} (h1 : argsD Γ ms rs = some ds) (h2 : apartB ms rs = true) (h3 : mPls ms rs = is) (h : sd ds (ptk is Γ Q) noX) : clk ms sd Γ rs Q := ⟨_, h1, h2, by subst h3; exact h⟩
theorem e_ptV {is : List Nat} {Γ1 : Env} (h1 : putsD is ds Γ = some Γ1) (h2 : Γ1 = Γ') (h : Q (.val d) Γ') : ptk is Γ Q false d ds := ⟨_, h1, by rw [h2]; exact h⟩
theorem e_ptF {is : List Nat} {Γ1 : Env} (h1 : putsD is ds Γ = some Γ1) (h2 : Γ1 = Γ') (h0 : frOf d = .fr d) (h : Q (.fr d) Γ') : ptk is Γ Q true d ds := ⟨_, h1, by rw [h2, if_pos rfl, h0]; exact h⟩
theorem e_ptN {is : List Nat} {Γ1 : Env} {a : D} {l : List D} (h1 : putsD is ds Γ = some Γ1) (h2 : Γ1 = Γ') (h : Q (.np a l) Γ') : ptk is Γ Q true (.tup [a, .lst l]) ds := ⟨_, h1, by rw [h2]; exact h⟩
/-! list(range(..)) -/
def rgk (r : Res) (Γ : Env) (Q : Int → Int → Env → Prop) : Prop := ∃ n, r = .val (.int n) ∧ Q 0 n Γ
theorem e_Rg1 {Q : Int → Int → Env → Prop} (h : ma Γ fun r Γ1 => rgk r Γ1 Q) : mRg1 ma Γ Q := h
theorem e_rg1 {Q : Int → Int → Env → Prop} {n : Int} (h : Q 0 n Γ) : rgk (.val (.int n)) Γ Q := ⟨_, rfl, h⟩
def rgk2 (r r2 : Res) (Γ : Env) (Q : Int → Int → Env → Prop) : Prop := ∃ i j, r = .val (.int i) ∧ r2 = .val (.int j) ∧ Q i j Γ
theorem e_Rg2 {Q : Int → Int → Env → Prop} (h : ma Γ fun r Γ1 => mb Γ1 fun r2 Γ2 => rgk2 r r2 Γ2 Q) : mRg2 ma mb Γ Q := h
theorem e_rg2 {Q : Int → Int → Env → Prop} {i j : Int} (h : Q i j Γ) : rgk2 (.val (.int i)) (.val (.int j)) Γ Q := ⟨_, _, rfl, rfl, h⟩
def lrk (a b : Int) (Γ : Env) (Q : QE) : Prop := RgOk a b ∧ Q (.fr (.lst (rgD a b))) Γ
def trk (a b : Int) (Γ : Env) (Q : QE) : Prop := RgOk a b ∧ Q (.val (.tup (rgD a b))) Γ
theorem e_LRg {mg : Env → (Int → Int → Env → Prop) → Prop} (h : mg Γ fun a b Γ1 => lrk a b Γ1 Q) : mLRg mg Γ Q := h
theorem e_TRg {mg : Env → (Int → Int → Env → Prop) → Prop} (h : mg Γ fun a b Γ1 => trk a b Γ1 Q) : mTRg mg Γ Q := h
theorem e_lrg {a b : Int} (h1 : RgOk a b) (h : Q (.fr (.lst (rgD a b))) Γ) : lrk a b Γ Q := ⟨h1, h⟩
theorem e_trg {a b : Int} (h1 : RgOk a b) (h : Q (.val (.tup (rgD a b))) Γ) : trk a b Γ Q := ⟨h1, h⟩
/-! chains -/
def ch1 (f f' : Int → Int → Bool) (mc : DTE) (ra rb : Res) (Γ : Env) (Q : QE) : Prop := ∃ i j, ra = .val (.int i) ∧ rb = .val (.int j) ∧
  if f i j = true then mc Γ fun rc Γ3 => ∃ k, rc = .val (.int k) ∧ Q (.val (.bl (f' j k))) Γ3 else Q (.val (.bl false)) Γ
theorem e_Chain {f f' : Int → Int → Bool} (h : ma Γ fun ra Γ1 => mb Γ1 fun rb Γ2 => ch1 f f' mc ra rb Γ2 Q) : mChain f f' ma mb mc Γ Q := h
def ch2 (f' : Int → Int → Bool) (j : Int) (rc : Res) (Γ : Env) (Q : QE) : Prop := ∃ k, rc = .val (.int k) ∧ Q (.val (.bl (f' j k))) Γ
theorem e_ch1 {f f' : Int → Int → Bool} {i j : Int} (h : if f i j = true then mc Γ fun rc Γ3 => ch2 f' j rc Γ3 Q else Q (.val (.bl false)) Γ) : ch1 f f' mc (.val (.int i)) (.val (.int j)) Γ Q := ⟨_, _, rfl, rfl, h⟩
theorem e_ch2 {f' : Int → Int → Bool} {j k : Int} (h : Q (.val (.bl (f' j k))) Γ) : ch2 f' j (.val (.int k)) Γ Q := ⟨_, rfl, h⟩
/-! changes in place -/
def mu0 (f : D → List D → (D → Res → Prop) → Prop) (mr : DTA) (ro : Res) (Γ : Env) (Q : QE) : Prop := ∃ i, ro = .pl i ∧ (∃ ds, cont Γ[i]? = some (.lst ds)) ∧ mr Γ fun rs Γ2 => ∃ c ds, mcont Γ2[i]? = some c ∧ dats rs = some ds ∧ f c ds fun c' z => ∃ Γ3, setC Γ2 i c' = some Γ3 ∧ Q z Γ3
def mu1 (f : D → List D → (D → Res → Prop) → Prop) (i : Nat) (rs : List Res) (Γ : Env) (Q : QE) : Prop := ∃ c ds, mcont Γ[i]? = some c ∧ dats rs = some ds ∧ f c ds fun c' z => ∃ Γ3, setC Γ i c' = some Γ3 ∧ Q z Γ3
def stk (i : Nat) (Γ : Env) (Q : QE) : D → Res → Prop := fun c' z => ∃ Γ3, setC Γ i c' = some Γ3 ∧ Q z Γ3
theorem e_Mut {f : D → List D → (D → Res → Prop) → Prop} (h : ma Γ fun ro Γ1 => mu0 f mr ro Γ1 Q) : mMut f ma mr Γ Q := h
theorem e_mu0 {f : D → List D → (D → Res → Prop) → Prop} (h1 : cont Γ[i]? = some (.lst ds)) (h : mr Γ fun rs Γ2 => mu1 f i rs Γ2 Q) : mu0 f mr (.pl i) Γ Q := ⟨_, rfl, ⟨_, h1⟩, h⟩
theorem e_mu1 {f : D → List D → (D → Res → Prop) → Prop} {c : D} (h1 : mcont Γ[i]? = some c) (h2 : dats rs = some ds) (h : f c ds (stk i Γ Q)) : mu1 f i rs Γ Q := ⟨_, _, h1, h2, h⟩
theorem e_st {c : D} {z : Res} {Γ1 : Env} (h1 : setC Γ i c = some Γ1) (h2 : Γ1 = Γ') (h : Q z Γ') : stk i Γ Q c z := ⟨_, h1, by rw [h2]; exact h⟩
/-! operators -/
theorem i_add {i j : Int} {Q : Res → Prop} (h : Q (.val (.int (i + j)))) : addD (.int i) (.int j) Q := h
theorem i_addL {x y : List D} {Q : Res → Prop} (h1 : x.length + y.length ≤ 100000) (h : Q (.fr (.lst (x ++ y)))) : addD (.lst x) (.lst y) Q := ⟨h1, h⟩
theorem i_sub {i j : Int} {Q : Res → Prop} (h : Q (.val (.int (i - j)))) : subD (.int i) (.int j) Q := h
theorem i_mul {i j : Int} {Q : Res → Prop} (h1 : MulOk i j) (h : Q (.val (.int (i * j)))) : mulD (.int i) (.int j) Q := ⟨h1, h⟩
theorem i_div {i j : Int} {Q : Res → Prop} (h1 : CDivW i j) (h : Q (.val (.int (i / j)))) : fdivD (.int i) (.int j) Q := ⟨h1, h⟩
theorem i_mod {i j : Int} {Q : Res → Prop} (h1 : 0 < j) (h : Q (.val (.int (i % j)))) : modD (.int i) (.int j) Q := ⟨h1, h⟩
theorem i_pow {i j : Int} {Q : Res → Prop} (h1 : PowOk i j) (h : Q (.val (.int (i ^ j.toNat)))) : powD (.int i) (.int j) Q := ⟨h1, h⟩
theorem i_neg {i : Int} {Q : Res → Prop} (h : Q (.val (.int (-i)))) : negD (.int i) Q := h
theorem i_lt {i j : Int} {Q : Res → Prop} (h : Q (.val (.bl (decide (i < j))))) : ltD (.int i) (.int j) Q := h
theorem i_le {i j : Int} {Q : Res → Prop} (h : Q (.val (.bl (decide (i ≤ j))))) : leD (.int i) (.int j) Q := h
theorem i_gt {i j : Int} {Q : Res → Prop} (h : Q (.val (.bl (decide (j < i))))) : gtD (.int i) (.int j) Q := h
theorem i_ge {i j : Int} {Q : Res → Prop} (h : Q (.val (.bl (decide (j ≤ i))))) : geD (.int i) (.int j) Q := h
theorem i_eq {a c : D} {Q : Res → Prop} (h1 : okE a = true) (h2 : okE c = true) (h3 : eqv a c = b) (h : Q (.val (.bl b))) : eqD a c Q := ⟨h1, h2, by rw [h3]; exact h⟩
theorem i_eqI {i j : Int} {Q : Res → Prop} (h : Q (.val (.bl (decide (i = j))))) : eqD (.int i) (.int j) Q := ⟨okE_int _, okE_int _, by rw [eqv_int]; exact h⟩
theorem i_neI {i j : Int} {Q : Res → Prop} (h : Q (.val (.bl (!decide (i = j))))) : neD (.int i) (.int j) Q := ⟨okE_int _, okE_int _, by rw [eqv_int]; exact h⟩
theorem i_eqL {i j : List Int} {Q : Res → Prop} (h : Q (.val (.bl (decide (i = j))))) : eqD (.lst (i.map D.int)) (.lst (j.map D.int)) Q := ⟨okE_ints _, okE_ints _, by rw [eqv_ints]; exact h⟩
theorem i_neL {i j : List Int} {Q : Res → Prop} (h : Q (.val (.bl (!decide (i = j))))) : neD (.lst (i.map D.int)) (.lst (j.map D.int)) Q := ⟨okE_ints _, okE_ints _, by rw [eqv_ints]; exact h⟩
theorem i_eqB {i j : Bool} {Q : Res → Prop} (h : Q (.val (.bl (decide (i = j))))) : eqD (.bl i) (.bl j) Q := ⟨okE_bl _, okE_bl _, by rw [eqv_bl]; exact h⟩
theorem i_ne {a c : D} {Q : Res → Prop} (h1 : okE a = true) (h2 : okE c = true) (h3 : eqv a c = b) (h : Q (.val (.bl (!b)))) : neD a c Q := ⟨h1, h2, by rw [h3]; exact h⟩
theorem i_isB {i j : Bool} {Q : Res → Prop} (h : Q (.val (.bl (decide (i = j))))) : isD (.bl i) (.bl j) Q := h
theorem i_isnB {i j : Bool} {Q : Res → Prop} (h : Q (.val (.bl (!decide (i = j))))) : isNotD (.bl i) (.bl j) Q := h
theorem i_ix {i : Int} {Q : Res → Prop} (h1 : atI ds i = some d) (h : Q (.val d)) : ixD (.lst ds) (.int i) Q := ⟨_, h1, h⟩
theorem i_ixT {i : Int} {Q : Res → Prop} (h1 : atI ds i = some d) (h : Q (.val d)) : ixD (.tup ds) (.int i) Q := ⟨_, h1, h⟩
theorem i_len {Q : Res → Prop} (h : Q (.val (.int ds.length))) : lenD [.lst ds] Q := h
theorem i_lenT {Q : Res → Prop} (h : Q (.val (.int ds.length))) : lenD [.tup ds] Q := h
theorem i_lenC {Q : Res → Prop} (h : Q (.val (.int ds.length))) : lenD [.scr ds] Q := h
theorem i_lenI {l : List Int} {Q : Res → Prop} (h : Q (.val (.int l.length))) : lenD [.lst (l.map D.int)] Q := by
  show Q (.val (.int (List.map D.int l).length)); rw [List.length_map]; exact h
theorem i_lenTI {l : List Int} {Q : Res → Prop} (h : Q (.val (.int l.length))) : lenD [.tup (l.map D.int)] Q := by
  show Q (.val (.int (List.map D.int l).length)); rw [List.length_map]; exact h
theorem i_int {i : Int} {Q : Res → Prop} (h : Q (.val (.int i))) : DL.intD [.int i] Q := h
theorem i_intB {i : Bool} {Q : Res → Prop} (h : Q (.val (.int (if i then 1 else 0)))) : DL.intD [.bl i] Q := h
theorem i_abs {i : Int} {Q : Res → Prop} (h : Q (.val (.int (i.natAbs : Int)))) : absD [.int i] Q := h
theorem i_min {i j : Int} {Q : Res → Prop} (h : Q (.val (.int (min i j)))) : minD [.int i, .int j] Q := h
theorem i_max {i j : Int} {Q : Res → Prop} (h : Q (.val (.int (max i j)))) : maxD [.int i, .int j] Q := h
theorem i_sum {l : List Int} {Q : Res → Prop} (h : Q (.val (.int l.sum))) : sumD [.lst (l.map D.int)] Q := ⟨_, ints?_map l, h⟩
theorem i_sumT {l : List Int} {Q : Res → Prop} (h : Q (.val (.int l.sum))) : sumD [.tup (l.map D.int)] Q := ⟨_, ints?_map l, h⟩
theorem i_all {l : List Bool} {Q : Res → Prop} (h : Q (.val (.bl (l.all id)))) : allD [.lst (l.map D.bl)] Q := ⟨_, bls?_map l, h⟩
theorem i_any {l : List Bool} {Q : Res → Prop} (h : Q (.val (.bl (l.any id)))) : anyD [.lst (l.map D.bl)] Q := ⟨_, bls?_map l, h⟩
theorem i_list {Q : Res → Prop} (h : Q (.fr (.lst ds))) : listD [.lst ds] Q := h
theorem i_listT {Q : Res → Prop} (h : Q (.fr (.lst ds))) : listD [.tup ds] Q := h
theorem i_listC {Q : Res → Prop} (h : Q (.fr (.lst ds))) : listD [.scr ds] Q := h
theorem i_tuple {Q : Res → Prop} (h : Q (.val (.tup ds))) : tupleD [.lst ds] Q := h
theorem i_tupleT {Q : Res → Prop} (h : Q (.val (.tup ds))) : tupleD [.tup ds] Q := h
theorem i_divmod {i j : Int} {Q : Res → Prop} (h1 : CDiv i j) (h : Q (.val (.tup [.int (i / j), .int (i % j)]))) : divmodD [.int i, .int j] Q := ⟨h1, h⟩
theorem i_addI {i j : Int} {Q : Res → Prop} (h : Q (.val (.int (i + j)))) : addI (.int i) (.int j) Q := h
theorem i_subI {i j : Int} {Q : Res → Prop} (h : Q (.val (.int (i - j)))) : subI (.int i) (.int j) Q := h
theorem i_append {Q : D → Res → Prop} (h1 : ds.length < 100000) (h : Q (.lst (ds ++ [d])) (.val .non)) : appendD (.lst ds) [d] Q := ⟨h1, h⟩
theorem i_insert0 {Q : D → Res → Prop} (h1 : ds.length < 100000) (h : Q (.lst (d :: ds)) (.val .non)) : insertD (.lst ds) [.int 0, d] Q := ⟨⟨h1, by decide, by decide⟩, by simpa using h⟩
theorem i_reverse {Q : D → Res → Prop} (h : Q (.lst ds.reverse) (.val .non)) : reverseD (.lst ds) [] Q := h
theorem i_clear {Q : D → Res → Prop} (h : Q (.lst []) (.val .non)) : clearD (.lst ds) [] Q := h
end
section
variable {Γ Γ' : Env} {nx bk ct : Env → Prop} {rt : Res → Env → Prop} {i : Nat} {d : D} {ma me : DTE} {m n : DTS} {mt : DTT} {mg : DTG} {mi : DTI} {r : Res} {rs : List Res} {mp : DTP} {ts : List Tg} {c : D}
theorem s_next (h : nx Γ) : mNext (.mk nx rt bk ct) Γ := h
theorem s_brk (h : bk Γ) : mBrk (.mk nx rt bk ct) Γ := h
theorem s_cnt (h : ct Γ) : mCnt (.mk nx rt bk ct) Γ := h
theorem s_seq (h : m (.mk (n (.mk nx rt bk ct)) rt bk ct) Γ) : mSeqS m n (.mk nx rt bk ct) Γ := h
theorem s_drop (h : ma Γ fun _ Γ1 => nx Γ1) : mDrop ma (.mk nx rt bk ct) Γ := h
theorem s_ret (h : ma Γ rt) : mRet ma (.mk nx rt bk ct) Γ := h
theorem s_retN (h : rt (.val .non) Γ) : mRetN (.mk nx rt bk ct) Γ := h
theorem s_if (h : mt Γ fun b Γ1 => if b = true then m (.mk nx rt bk ct) Γ1 else n (.mk nx rt bk ct) Γ1) : mIfS mt m n (.mk nx rt bk ct) Γ := h
def sek (i : Nat) (r : Res) (Γ : Env) (nx : Env → Prop) : Prop := ∃ d, dat r = some d ∧ freeB Γ i = true ∧ nx (Γ.set i (.sh d))
def sok (i : Nat) (r : Res) (Γ : Env) (nx : Env → Prop) : Prop := ∃ d, r = .fr d ∧ freeB Γ i = true ∧ nx (Γ.set i (.ow d))
theorem s_Set (h : ma Γ fun r Γ1 => sek i r Γ1 nx) : mSet i ma (.mk nx rt bk ct) Γ := h
theorem s_SetO (h : ma Γ fun r Γ1 => sok i r Γ1 nx) : mSetO i ma (.mk nx rt bk ct) Γ := h
theorem s_set (h1 : dat r = some d) (h2 : freeB Γ i = true) (h3 : Γ.set i (.sh d) = Γ') (h : nx Γ') : sek i r Γ nx := ⟨_, h1, h2, by rw [h3]; exact h⟩
theorem s_setO (h2 : freeB Γ i = true) (h3 : Γ.set i (.ow d) = Γ') (h : nx Γ') : sok i (.fr d) Γ nx := ⟨_, rfl, h2, by rw [h3]; exact h⟩
theorem s_frz (h1 : frzD Γ i = some Γ') (h : m (.mk nx rt bk ct) Γ') : mFrz i m (.mk nx rt bk ct) Γ := ⟨_, h1, h⟩
def ask (mg : DTG) (r : Res) (Γ : Env) (nx : Env → Prop) : Prop := ∃ d, dat r = some d ∧ mg d Γ nx
theorem s_Asg (h : ma Γ fun r Γ1 => ask mg r Γ1 nx) : mAsg ma mg (.mk nx rt bk ct) Γ := h
theorem s_asg (h1 : dat r = some d) (h : mg d Γ nx) : ask mg r Γ nx := ⟨_, h1, h⟩
theorem g_name (h1 : freeB Γ i = true) (h2 : Γ.set i (.sh d) = Γ') (h : nx Γ') : mgName i d Γ nx := ⟨h1, by rw [h2]; exact h⟩
theorem g_tup {n : Nat} {ms : DTGs} {ds : List D} (h1 : ds.length = n) (h : ms ds Γ nx) : mgTup n ms (.tup ds) Γ nx := ⟨_, rfl, h1, h⟩
theorem g_cons {ms : DTGs} {ds : List D} (h : mg d Γ fun Γ1 => ms ds Γ1 nx) : mgCons mg ms (d :: ds) Γ nx := ⟨_, _, rfl, h⟩
theorem g_nil (h : nx Γ) : mgNil [] Γ nx := ⟨rfl, h⟩
def sbk (f : D → D → D → (D → Prop) → Prop) (d : D) (ro ri : Res) (Γ : Env) (nx : Env → Prop) : Prop := ∃ i c k, ro = .pl i ∧ cont Γ[i]? = some c ∧ rd Γ ri = some k ∧ f c k d fun c' => ∃ Γ3, setC Γ i c' = some Γ3 ∧ nx Γ3
def sck (i : Nat) (Γ : Env) (nx : Env → Prop) : D → Prop := fun c' => ∃ Γ3, setC Γ i c' = some Γ3 ∧ nx Γ3
theorem g_Sub {f : D → D → D → (D → Prop) → Prop} (h : ma Γ fun ro Γ1 => me Γ1 fun ri Γ2 => sbk f d ro ri Γ2 nx) : mgSub ma me f d Γ nx := h
theorem g_sub {f : D → D → D → (D → Prop) → Prop} {k : D} (h1 : cont Γ[i]? = some c) (h2 : rd Γ r = some k) (h : f c k d (sck i Γ nx)) : sbk f d (.pl i) r Γ nx := ⟨_, _, _, rfl, h1, h2, h⟩
theorem g_set {Γ1 : Env} (h1 : setC Γ i c = some Γ1) (h2 : Γ1 = Γ') (h : nx Γ') : sck i Γ nx c := ⟨_, h1, by rw [h2]; exact h⟩
theorem i_st {ds : List D} {k : Int} {j : Nat} {Q : D → Prop} (h1 : ixN ds.length k = some j) (h : Q (.lst (ds.set j d))) : stD (.lst ds) (.int k) d Q := ⟨_, h1, h⟩
def auk (i : Nat) (x : D) (f : D → D → (Res → Prop) → Prop) (r : Res) (Γ : Env) (nx : Env → Prop) : Prop := ∃ y, rd Γ r = some y ∧ f x y fun z => ∃ d, z = .val d ∧ freeB Γ i = true ∧ nx (Γ.set i (.sh d))
def avk (i : Nat) (Γ : Env) (nx : Env → Prop) : Res → Prop := fun z => ∃ d, z = .val d ∧ freeB Γ i = true ∧ nx (Γ.set i (.sh d))
theorem s_Aug {f : D → D → (Res → Prop) → Prop} {x : D} (h1 : Γ[i]? = some (.sh x)) (h : me Γ fun r Γ1 => auk i x f r Γ1 nx) : mAug i me f (.mk nx rt bk ct) Γ := ⟨_, h1, h⟩
theorem s_aug {f : D → D → (Res → Prop) → Prop} {x y : D} (h1 : rd Γ r = some y) (h : f x y (avk i Γ nx)) : auk i x f r Γ nx := ⟨_, h1, h⟩
theorem s_av (h1 : freeB Γ i = true) (h2 : Γ.set i (.sh d) = Γ') (h : nx Γ') : avk i Γ nx (.val d) := ⟨_, rfl, h1, by rw [h2]; exact h⟩
/-! x[k] op= e -/
def a1k (me : DTE) (f : D → D → (Res → Prop) → Prop) (ro ri : Res) (Γ : Env) (nx : Env → Prop) : Prop := ∃ i ds k x, ro = .pl i ∧ cont Γ[i]? = some (.lst ds) ∧ ri = .val (.int k) ∧ atI ds k = some x ∧ me Γ fun rv Γ3 => ∃ y, rd Γ3 rv = some y ∧ f x y fun z => ∃ d ds3 j, z = .val d ∧ cont Γ3[i]? = some (.lst ds3) ∧ ixN ds3.length k = some j ∧ ∃ Γ4, setC Γ3 i (.lst (ds3.set j d)) = some Γ4 ∧ nx Γ4
def a2k (i : Nat) (k : Int) (x : D) (f : D → D → (Res → Prop) → Prop) (rv : Res) (Γ : Env) (nx : Env → Prop) : Prop := ∃ y, rd Γ rv = some y ∧ f x y fun z => ∃ d ds3 j, z = .val d ∧ cont Γ[i]? = some (.lst ds3) ∧ ixN ds3.length k = some j ∧ ∃ Γ4, setC Γ i (.lst (ds3.set j d)) = some Γ4 ∧ nx Γ4
def a3k (i : Nat) (k : Int) (Γ : Env) (nx : Env → Prop) : Res → Prop := fun z => ∃ d ds3 j, z = .val d ∧ cont Γ[i]? = some (.lst ds3) ∧ ixN ds3.length k = some j ∧ ∃ Γ4, setC Γ i (.lst (ds3.set j d)) = some Γ4 ∧ nx Γ4
theorem s_AugS {mo mi : DTE} {f : D → D → (Res → Prop) → Prop} (h : mo Γ fun ro Γ1 => mi Γ1 fun ri Γ2 => a1k me f ro ri Γ2 nx) : mAugS mo mi me f (.mk nx rt bk ct) Γ := h
theorem s_a1 {f : D → D → (Res → Prop) → Prop} {ds : List D} {k : Int} {x : D} (h1 : cont Γ[i]? = some (.lst ds)) (h2 : atI ds k = some x) (h : me Γ fun rv Γ3 => a2k i k x f rv Γ3 nx) : a1k me f (.pl i) (.val (.int k)) Γ nx := ⟨_, _, _, _, rfl, h1, rfl, h2, h⟩
theorem s_a2 {f : D → D → (Res → Prop) → Prop} {k : Int} {x y : D} (h1 : rd Γ r = some y) (h : f x y (a3k i k Γ nx)) : a2k i k x f r Γ nx := ⟨_, h1, h⟩
theorem s_a3 {k : Int} {ds : List D} {j : Nat} (h1 : cont Γ[i]? = some (.lst ds)) (h2 : ixN ds.length k = some j) {Γ1 : Env} (h3 : setC Γ i (.lst (ds.set j d)) = some Γ1) (h4 : Γ1 = Γ') (h : nx Γ') : a3k i k Γ nx (.val d) := ⟨_, _, _, rfl, h1, h2, _, h3, by rw [h4]; exact h⟩
/-! a, b = .. -/
theorem s_Par (h : mp Γ fun rs Γ1 => mTgs ts rs Γ1 nx) : mPar mp ts (.mk nx rt bk ct) Γ := h
theorem s_Par3 {n : Nat} (h : mp Γ fun rs Γ1 => rs.length = n ∧ mTgs ts rs Γ1 nx) : mPar3 n mp ts (.mk nx rt bk ct) Γ := h
theorem p_nil {Q : List Res → Env → Prop} (h : Q [] Γ) : mPNil Γ Q := h
def pck (r : Res) (mr : DTP) (Γ : Env) (Q : List Res → Env → Prop) : Prop := isPl r = false ∧ mr Γ fun rs Γ2 => Q (r :: rs) Γ2
theorem p_Cons {mr : DTP} {Q : List Res → Env → Prop} (h : ma Γ fun r Γ1 => pck r mr Γ1 Q) : mPCons ma mr Γ Q := h
theorem p_cons {mr : DTP} {Q : List Res → Env → Prop} (h1 : isPl r = false) (h : mr Γ fun rs Γ2 => Q (r :: rs) Γ2) : pck r mr Γ Q := ⟨h1, h⟩
theorem t_nil (h : nx Γ) : mTgs [] [] Γ nx := by rw [mTgs]; exact h
theorem t_sh (h1 : dat r = some d) (h2 : freeB Γ i = true) (h3 : Γ.set i (.sh d) = Γ') (h : mTgs ts rs Γ' nx) : mTgs (.sh i :: ts) (r :: rs) Γ nx := by rw [mTgs]; exact ⟨_, h1, h2, by rw [h3]; exact h⟩
theorem t_ow (h2 : freeB Γ i = true) (h3 : Γ.set i (.ow d) = Γ') (h : mTgs ts rs Γ' nx) : mTgs (.ow i :: ts) (.fr d :: rs) Γ nx := by rw [mTgs]; exact ⟨_, rfl, h2, by rw [h3]; exact h⟩
theorem t_sub {mo mi : DTE} (h1 : dat r = some d) (h : mgSub mo mi stD d Γ fun Γ1 => mTgs ts rs Γ1 nx) : mTgs (.sub mo mi :: ts) (r :: rs) Γ nx := by rw [mTgs]; exact ⟨_, h1, h⟩
theorem t_gen {mg : DTG} (h1 : dat r = some d) (h : mg d Γ fun Γ1 => mTgs ts rs Γ1 nx) : mTgs (.gen mg :: ts) (r :: rs) Γ nx := by rw [mTgs]; exact ⟨_, h1, h⟩
/-! loops -/
theorem s_For (h : mi Γ fun src items Γ1 => loopM src mg m (.mk nx rt bk ct) items Γ1) : mFor mi mg m (.mk nx rt bk ct) Γ := h
def sqk (r : Res) (Γ : Env) (Q : Src → List D → Env → Prop) : Prop := ∃ d ds, rd Γ r = some d ∧ itemsOf d = some ds ∧ Q (srcOf d r) ds Γ
theorem w_Seq {Q : Src → List D → Env → Prop} (h : ma Γ fun r Γ1 => sqk r Γ1 Q) : mSeq ma Γ Q := h
theorem w_seq {Q : Src → List D → Env → Prop} {ds : List D} (h1 : rd Γ r = some d) (h2 : itemsOf d = some ds) (h : Q (srcOf d r) ds Γ) : sqk r Γ Q := ⟨_, _, h1, h2, h⟩
def r1k (rs : List Res) (Γ : Env) (Q : Src → List D → Env → Prop) : Prop := ∃ j : Int, rs = [.val (.int j)] ∧ (-(2 ^ 62) ≤ j ∧ j < 2 ^ 62) ∧ Q .no (rngD 0 j.toNat) Γ
theorem w_Rng1 {mr : DTA} {Q : Src → List D → Env → Prop} (h : mr Γ fun rs Γ1 => r1k rs Γ1 Q) : mRng1 mr Γ Q := h
theorem w_rng1 {Q : Src → List D → Env → Prop} {j : Int} (h1 : -(2 ^ 62) ≤ j ∧ j < 2 ^ 62) (h : Q .no (rngD 0 j.toNat) Γ) : r1k [.val (.int j)] Γ Q := ⟨_, rfl, h1, h⟩
def r2k (rs : List Res) (Γ : Env) (Q : Src → List D → Env → Prop) : Prop := ∃ i j : Int, rs = [.val (.int i), .val (.int j)] ∧ (-(2 ^ 62) ≤ i ∧ i < 2 ^ 62 ∧ -(2 ^ 62) ≤ j ∧ j < 2 ^ 62) ∧ Q .no (rngD i (j - i).toNat) Γ
theorem w_Rng2 {mr : DTA} {Q : Src → List D → Env → Prop} (h : mr Γ fun rs Γ1 => r2k rs Γ1 Q) : mRng2 mr Γ Q := h
theorem w_rng2 {Q : Src → List D → Env → Prop} {i j : Int} (h1 : -(2 ^ 62) ≤ i ∧ i < 2 ^ 62 ∧ -(2 ^ 62) ≤ j ∧ j < 2 ^ 62) (h : Q .no (rngD i (j - i).toNat) Γ) : r2k [.val (.int i), .val (.int j)] Γ Q := ⟨_, _, rfl, h1, h⟩
def enk (r : Res) (Γ : Env) (Q : Src → List D → Env → Prop) : Prop := ∃ d ds, rd Γ r = some d ∧ itemsOf d = some ds ∧ Q (srcOf d r) (enumD 0 ds) Γ
theorem w_Enum {Q : Src → List D → Env → Prop} (h : ma Γ fun r Γ1 => enk r Γ1 Q) : mEnum ma Γ Q := h
theorem w_enum {Q : Src → List D → Env → Prop} {ds : List D} (h1 : rd Γ r = some d) (h2 : itemsOf d = some ds) (h : Q (srcOf d r) (enumD 0 ds) Γ) : enk r Γ Q := ⟨_, _, h1, h2, h⟩
theorem w_Comp {Q : QE} {vs : List Nat} (h : mi Γ fun src items Γ1 => compM src mg mt me vs (fun acc Γ2 => Q (.fr (.lst acc)) Γ2) items [] Γ1) : mComp mi mg mt me vs Γ Q := h
theorem e_yes {Q : Bool → Env → Prop} (h : Q true Γ) : mYes Γ Q := h
/-! the ends -/
theorem d_val {ms : List Md} {Qd : Bool → D → List D → Prop} {ds : List D} (h1 : iosD ms Γ = ds) (h : Qd false d ds) : rtD ms Qd (.val d) Γ := by subst h1; exact h
theorem d_fr {ms : List Md} {Qd : Bool → D → List D → Prop} {ds : List D} (h1 : iosD ms Γ = ds) (h : Qd true d ds) : rtD ms Qd (.fr d) Γ := by subst h1; exact h
theorem d_pl {ms : List Md} {Qd : Bool → D → List D → Prop} {ds : List D} (h0 : Γ[i]? = some (.ow d)) (h1 : iosD ms Γ = ds) (h : Qd true d ds) : rtD ms Qd (.pl i) Γ := by subst h1; exact ⟨_, h0, h⟩
end
/-! slots that may be stored to -/
def fr (s : Sl) : Bool := freeB [s] 0
theorem i_take {b : D} {many : Int} {Q : Bool → D → List D → Prop} {E : EdT} (hb : BagD b) (h1 : 0 < many) (h2 : many < 2 ^ 256) (h : ∀ k b', 0 ≤ k → k < many → BagD b' → Q false (.int k) [b']) : takeD [b, .int many] Q E := ⟨b, many, rfl, hb, h1, h2, h⟩
theorem i_repr {d : D} {Q : Res → Prop} (h1 : okR d = true) (h : Q (.val (.str (toPy d).shown))) : reprD [d] Q := ⟨.inr (.inl h1), h⟩
theorem strOk_app {a b : Str} (h1 : PyData.strOk a = true) (h2 : PyData.strOk b = true) : PyData.strOk (a ++ b) = true := by
  unfold PyData.strOk at *
  rw [show (a ++ b).cps = a.cps ++ b.cps from rfl, Array.all_append, h1, h2]
  rfl
theorem strOk_of (s : String) : PyData.strOk (Str.ofString s) = true := by
  rw [Str.ofString_eq_toList]
  unfold PyData.strOk
  rw [Array.all_eq_true']
  intro x hx
  simp only [List.mem_toArray, List.mem_map] at hx
  obtain ⟨c, _, rfl⟩ := hx
  have h := c.valid
  have : c.toNat < 1114112 := by
    have h : c.val.toNat.isValidChar := h
    show c.val.toNat < 1114112
    unfold Nat.isValidChar at h
    omega
  exact decide_eq_true this
theorem strOk_textFrom : ∀ (ts : List Str) (k : Nat) (acc : Str), (∀ t ∈ ts, PyData.strOk t = true) → PyData.strOk acc = true → PyData.strOk (textFrom k acc ts) = true
  | [], _, acc, _, h => h
  | t :: ts, k, acc, h, h2 => strOk_textFrom ts (k + 1) _ (fun x hx => h x (List.mem_cons_of_mem _ hx)) (strOk_app (strOk_app h2 (by split <;> exact strOk_of _)) (h t (List.mem_cons_self ..)))
theorem okE_strOk {x : Str} (h : PyData.strOk x = true) : okE (.str x) = true := by
  simp [okE, plain, toPy, SeqAt.shaped, PyData.canLay0, PyData.depth, h]
theorem i_eqS {x : Str} {Q : Res → Prop} (h1 : okE (.str x) = true) (h : Q (.val (.bl true))) : eqD (.str x) (.str x) Q := ⟨h1, h1, by rw [eqv_ssS, beq_self_eq_true]; exact h⟩
theorem cut1 (z : D) (r : List D) : DL.cutD (z :: r) (some 1) none = r := by
  simp [DL.cutD, HT.sIx]
theorem i_sl1 {d : D} {ds : List D} {Q : Res → Prop} (h : Q (.fr (.lst ds))) : slD (.lst (d :: ds)) (some 1) none Q := by
  show Q (.fr (.lst (DL.cutD (d :: ds) (some 1) none)))
  rw [cut1]; exact h
end DL
/-! the data layer, part 17: own classes: the rules on values -/
namespace DL
open PySem PySem.Spec PyProof.Rows L2
section
variable {X : Cx} {k : Nat} {f C p g : Addr} {fd : FuncData} {ps : List Str} {sp : Sp} {dvs : List V} {ds : List Value} {x m : Str} {pos apos p1 : Pos} {o e : Expr} {es : List Expr} {t : TA} {ta : TE} {E : XK}
theorem under_guards {A : Around} {C : Addr} {us : List Value} {kw : List (Str × Value)} : (A.under (.builtin "type.__call__" ⟨.ref C :: us, kw⟩)).guards = A.guards := by
  first
  | rfl
  | simp [Around.under, Code.weight, Code.isCreation, Code.isGuard, Code.isCaller, Code.frames, Code.isFrame, guardIds]
end
end DL
/-! the data layer, part 18: own classes over data -/
namespace DL
open PySem PySem.Spec PyProof.Rows L2
/-! ### fields -/
def fldD : List Str → List D → Str → Option D
  | n :: ns, d :: ds, f => if (f == n) = true then some d else fldD ns ds f
  | _, _, _ => none
def putN (f : Str) : List Str → List Str
  | [] => [f]
  | n :: ns => if n = f then n :: ns else n :: putN f ns
def putDs (f : Str) (d : D) : List Str → List D → List D
  | n :: ns, e :: ds => if n = f then d :: ds else e :: putDs f d ns ds
  | _, ds => ds ++ [d]
/-! ### the readings -/
def mFld (C : Addr) (f : Str) (mo : DTE) : DTE := fun Γ Q => mo Γ fun r Γ1 => ∃ ns ds d, rd Γ1 r = some (.obj C ns ds) ∧ fldD ns ds f = some d ∧ Q (.val d) Γ1
def mSetF (C : Addr) (f : Str) (mo me : DTE) : DTS := fun D Γ => me Γ fun r Γ1 => mo Γ1 fun ro Γ2 => ∃ d i ns ds, dat r = some d ∧ ro = .pl i ∧ cont Γ2[i]? = some (.obj C ns ds) ∧ ns.length < 1000 ∧ ∃ Γ3, setC Γ2 i (.obj C (putN f ns) (putDs f d ns ds)) = some Γ3 ∧ D.nx Γ3
/-- the receiver and the arguments -/
def mSelf (C : Addr) (m : Str) (mo : DTE) (ma : DTA) : DTA := fun Γ Q => mo Γ fun r Γ1 => (∃ ns ds, rd Γ1 r = some (.obj C ns ds) ∧ m ∉ ns) ∧ ma Γ1 fun rs Γ2 => Q (r :: rs) Γ2
def mSelf1 (C : Addr) (mo : DTE) : DTA := fun Γ Q => mo Γ fun r Γ1 => (∃ ns ds, rd Γ1 r = some (.obj C ns ds)) ∧ Q [r] Γ1
def mCls (C : Addr) (ma : DTA) : DTA := fun Γ Q => ma Γ fun rs Γ1 => Q (.val (.cls C) :: rs) Γ1
def mMake (C : Addr) (ms : List Md) (sd : DSp) (ma : DTA) : DTE := fun Γ Q => ma Γ fun rs Γ1 => ∃ ds, argsD Γ1 ms rs = some ds ∧ apartB ms rs = true ∧
  sd (.obj C [] [] :: ds) (fun b d ds' => d = .non ∧ ∃ d0 r0 Γ2, ds' = d0 :: r0 ∧ putsD (mPls ms rs) r0 Γ1 = some Γ2 ∧ Q (.fr d0) Γ2) noX
def mMakeL (i : Nat) (C : Addr) (ms : List Md) (sd : DSp) (ma : DTA) : DTE := fun Γ Q => Γ[i]? = some (.sh (.cls C)) ∧ mMake C ms sd ma Γ Q
/-- isinstance(x, C) -/
def isO (C : Addr) : D → Option Bool
  | .obj C' _ _ => if C' = C then some true else none
  | .cls _ => none
  | .xcl _ _ => none
  | .dtl _ => none
  | .pnK _ _ => none
  | .pnT _ _ => none
  | _ => some false
def mIsO (C : Addr) (ma : DTE) : DTE := fun Γ Q => ma Γ fun r Γ1 => ∃ d b, rd Γ1 r = some d ∧ isO C d = some b ∧ Q (.val (.bl b)) Γ1
/-- x == y by the class's own == -/
def eqk (F : Bool → Bool) (Γ2 : Env) (Q : QE) : Bool → D → List D → Prop := fun b d ds' => ∃ Γ3, putsD [] ds' Γ2 = some Γ3 ∧ (Γ3 = Γ2 ∧ ∃ z, (if b = true then frOf d else .val d) = .val (.bl z) ∧ Q (.val (.bl (F z))) Γ2)
theorem eqk_in {F : Bool → Bool} {Γ2 : Env} {Q : QE} {z : Bool} (h : Q (.val (.bl (F z))) Γ2) : eqk F Γ2 Q false (.bl z) [] := ⟨Γ2, rfl, rfl, z, rfl, h⟩
def mEqO (C : Addr) (sd : DSp) (F : Bool → Bool) (ma mb : DTE) : DTE := fun Γ Q => ma Γ fun ra Γ1 => mb Γ1 fun rb Γ2 => ∃ ns ds ns' ds', dat ra = some (.obj C ns ds) ∧ dat rb = some (.obj C ns' ds') ∧
  sd [.obj C ns ds, .obj C ns' ds'] (eqk F Γ2 Q) noX
end DL
/-! the data layer, part 19: own classes: the rules for the printed derivations -/
namespace DL
open PySem PySem.Spec PyProof.Rows L2
section
variable {X : Cx} {C : Ctx} {C0 : Addr} {k : Nat} {g p : Addr} {fd : FuncData} {ps : List Str} {ms : List Md} {sd : DSp} {ta tb to te : TE} {ma mb mo me : DTE} {a b o e : Expr} {es : List Expr} {t : TA} {mt : DTA} {pos apos p1 p2 : Pos} {f m x : Str} {st : Stmt}
/-- a class of the module as a value -/
theorem pe_cls (hg : Gl X x) (hm : X.mg x = some (.ref C0)) (hdb : (x == ("__debug__" : Str)) = false := by decide) : PE X (.Name x p2) (tC (.ref C0)) := pe_glob hg hm rfl hdb
end
end DL
/-! the data layer, part 20: one step of a reading at a time: own classes -/
namespace DL
open PySem PySem.Spec PyProof.Rows L2
section
variable {Γ Γ' : Env} {Q : QE} {i : Nat} {d e : D} {ma mb mo me : DTE} {mr : DTA} {r r2 : Res} {rs : List Res} {ns : List Str} {ds : List D} {b : Bool} {C : Addr} {f m : Str}
def fdk (C : Addr) (f : Str) (r : Res) (Γ : Env) (Q : QE) : Prop := ∃ ns ds d, rd Γ r = some (.obj C ns ds) ∧ fldD ns ds f = some d ∧ Q (.val d) Γ
theorem e_Fld (h : mo Γ fun r Γ1 => fdk C f r Γ1 Q) : mFld C f mo Γ Q := h
theorem e_fld (h1 : rd Γ r = some (.obj C ns ds)) (h2 : fldD ns ds f = some d) (h : Q (.val d) Γ) : fdk C f r Γ Q := ⟨_, _, _, h1, h2, h⟩
theorem fld_1 : fldD (f :: ns) (d :: ds) f = some d := by rw [fldD, beq_self_eq_true, if_pos rfl]
theorem fld_2 {g : Str} (h : (f == g) = false) : fldD (g :: f :: ns) (e :: d :: ds) f = some d := by rw [fldD, h, if_neg Bool.false_ne_true, fld_1]
def sfk (C : Addr) (f : Str) (r ro : Res) (Γ : Env) (nx : Env → Prop) : Prop := ∃ d i ns ds, dat r = some d ∧ ro = .pl i ∧ cont Γ[i]? = some (.obj C ns ds) ∧ ns.length < 1000 ∧ ∃ Γ3, setC Γ i (.obj C (putN f ns) (putDs f d ns ds)) = some Γ3 ∧ nx Γ3
theorem s_SetF {nx bk ct : Env → Prop} {rt : Res → Env → Prop} (h : me Γ fun r Γ1 => mo Γ1 fun ro Γ2 => sfk C f r ro Γ2 nx) : mSetF C f mo me (.mk nx rt bk ct) Γ := h
theorem s_setF {nx : Env → Prop} {ns2 : List Str} {ds2 : List D} {Γ1 : Env} (h1 : dat r = some d) (h2 : cont Γ[i]? = some (.obj C ns ds)) (h3 : ns.length < 1000) (h4 : putN f ns = ns2) (h5 : putDs f d ns ds = ds2) (h6 : setC Γ i (.obj C ns2 ds2) = some Γ1) (h7 : Γ1 = Γ') (h : nx Γ') : sfk C f r (.pl i) Γ nx :=
  ⟨d, i, ns, ds, h1, rfl, h2, h3, Γ1, by rw [h4, h5]; exact h6, by rw [h7]; exact h⟩
def slfk (C : Addr) (m : Str) (r : Res) (ma : DTA) (Γ : Env) (Q : List Res → Env → Prop) : Prop := (∃ ns ds, rd Γ r = some (.obj C ns ds) ∧ m ∉ ns) ∧ ma Γ fun rs Γ2 => Q (r :: rs) Γ2
theorem e_Self {Q : List Res → Env → Prop} (h : mo Γ fun r Γ1 => slfk C m r mr Γ1 Q) : mSelf C m mo mr Γ Q := h
theorem e_self {Q : List Res → Env → Prop} (h1 : rd Γ r = some (.obj C ns ds)) (h2 : m ∉ ns) (h : mr Γ fun rs Γ2 => Q (r :: rs) Γ2) : slfk C m r mr Γ Q := ⟨⟨_, _, h1, h2⟩, h⟩
def slf1 (C : Addr) (r : Res) (Γ : Env) (Q : List Res → Env → Prop) : Prop := (∃ ns ds, rd Γ r = some (.obj C ns ds)) ∧ Q [r] Γ
theorem e_Self1 {Q : List Res → Env → Prop} (h : mo Γ fun r Γ1 => slf1 C r Γ1 Q) : mSelf1 C mo Γ Q := h
theorem e_self1 {Q : List Res → Env → Prop} (h1 : rd Γ r = some (.obj C ns ds)) (h : Q [r] Γ) : slf1 C r Γ Q := ⟨⟨_, _, h1⟩, h⟩
theorem e_Cls {Q : List Res → Env → Prop} (h : mr Γ fun rs Γ1 => Q (.val (.cls C) :: rs) Γ1) : mCls C mr Γ Q := h
def mkk (C : Addr) (ms : List Md) (sd : DSp) (Γ1 : Env) (rs : List Res) (Q : QE) : Prop := ∃ ds, argsD Γ1 ms rs = some ds ∧ apartB ms rs = true ∧ sd (.obj C [] [] :: ds) (fun b d ds' => d = .non ∧ ∃ d0 r0 Γ2, ds' = d0 :: r0 ∧ putsD (mPls ms rs) r0 Γ1 = some Γ2 ∧ Q (.fr d0) Γ2) noX
def mak (is : List Nat) (Γ1 : Env) (Q : QE) : Bool → D → List D → Prop := fun b d ds' => d = .non ∧ ∃ d0 r0 Γ2, ds' = d0 :: r0 ∧ putsD is r0 Γ1 = some Γ2 ∧ Q (.fr d0) Γ2
theorem e_Make {ms : List Md} {sd : DSp} (h : mr Γ fun rs Γ1 => mkk C ms sd Γ1 rs Q) : mMake C ms sd mr Γ Q := h
theorem e_MakeL {ms : List Md} {sd : DSp} (h1 : Γ[i]? = some (.sh (.cls C))) (h : mr Γ fun rs Γ1 => mkk C ms sd Γ1 rs Q) : mMakeL i C ms sd mr Γ Q := ⟨h1, h⟩
theorem e_make {ms : List Md} {sd : DSp} {is : List Nat} (h1 : argsD Γ ms rs = some ds) (h2 : apartB ms rs = true) (h3 : mPls ms rs = is) (h : sd (.obj C [] [] :: ds) (mak is Γ Q) noX) : mkk C ms sd Γ rs Q := ⟨_, h1, h2, by subst h3; exact h⟩
theorem e_mak {is : List Nat} {Γ1 : Env} (h1 : putsD is ds Γ = some Γ1) (h2 : Γ1 = Γ') (h : Q (.fr d) Γ') : mak is Γ Q b .non (d :: ds) := ⟨rfl, d, ds, Γ1, rfl, h1, by rw [h2]; exact h⟩
def iok (C : Addr) (r : Res) (Γ : Env) (Q : QE) : Prop := ∃ d b, rd Γ r = some d ∧ isO C d = some b ∧ Q (.val (.bl b)) Γ
theorem e_IsO (h : ma Γ fun r Γ1 => iok C r Γ1 Q) : mIsO C ma Γ Q := h
theorem e_isO (h1 : rd Γ r = some d) (h2 : isO C d = some b) (h : Q (.val (.bl b)) Γ) : iok C r Γ Q := ⟨_, _, h1, h2, h⟩
theorem isO_self : isO C (.obj C ns ds) = some true := by show (if C = C then some true else none) = some true; rw [if_pos rfl]
def eok (C : Addr) (sd : DSp) (F : Bool → Bool) (ra rb : Res) (Γ2 : Env) (Q : QE) : Prop := ∃ ns ds ns' ds', dat ra = some (.obj C ns ds) ∧ dat rb = some (.obj C ns' ds') ∧ sd [.obj C ns ds, .obj C ns' ds'] (eqk F Γ2 Q) noX
theorem e_EqO {sd : DSp} {F : Bool → Bool} (h : ma Γ fun ra Γ1 => mb Γ1 fun rb Γ2 => eok C sd F ra rb Γ2 Q) : mEqO C sd F ma mb Γ Q := h
theorem e_eqO {sd : DSp} {F : Bool → Bool} {ns' : List Str} {ds' : List D} (h1 : dat r = some (.obj C ns ds)) (h2 : dat r2 = some (.obj C ns' ds')) (h : sd [.obj C ns ds, .obj C ns' ds'] (eqk F Γ Q) noX) : eok C sd F r r2 Γ Q := ⟨_, _, _, _, h1, h2, h⟩
theorem e_eqk {F : Bool → Bool} {z : Bool} (h : Q (.val (.bl (F z))) Γ) : eqk F Γ Q false (.bl z) [] := eqk_in h
end
theorem i_powN {i j : Int} {n : Nat} {Q : Res → Prop} (hj : j.toNat = n) (h1 : PowOk i j) (h : Q (.val (.int (i ^ n)))) : powD (.int i) (.int j) Q := ⟨h1, by rw [hj]; exact h⟩
theorem i_eqT {i j : List Int} {Q : Res → Prop} (h : Q (.val (.bl (decide (i = j))))) : eqD (.tup (i.map D.int)) (.tup (j.map D.int)) Q := ⟨okE_tints _, okE_tints _, by rw [eqv_tints]; exact h⟩
theorem i_neT {i j : List Int} {Q : Res → Prop} (h : Q (.val (.bl (!decide (i = j))))) : neD (.tup (i.map D.int)) (.tup (j.map D.int)) Q := ⟨okE_tints _, okE_tints _, by rw [eqv_tints]; exact h⟩
theorem i_neB {i j : Bool} {Q : Res → Prop} (h : Q (.val (.bl (!decide (i = j))))) : neD (.bl i) (.bl j) Q := ⟨okE_bl _, okE_bl _, by rw [eqv_bl]; exact h⟩
theorem rgD_nat (n : Nat) : rgD 0 (n : Int) = ((List.range n).map fun i => ((i : Nat) : Int)).map D.int := by
  unfold rgD
  rw [List.map_map]
  simp
end DL
namespace DL
open PySem PySem.Spec PyProof.Rows L2
/-! data that are equal to themselves and print well -/
mutual
def niceD (k : Nat) : D → Bool
  | .int i => decide (i.natAbs < 2 ^ k)
  | .bl _ => true
  | .non => true
  | .lst ds => nicesD k ds
  | .tup ds => nicesD k ds
  | .str x => PyData.strOk x
  | _ => false
def nicesD (k : Nat) : List D → Bool
  | [] => true
  | d :: ds => niceD k d && nicesD k ds
end
mutual
def wtD (k : Nat) : D → Nat
  | .int _ => k + 1
  | .lst ds => 4 + wtsD k ds
  | .tup ds => 4 + wtsD k ds
  | .str x => 10 * x.length + 5
  | _ => 5
def wtsD (k : Nat) : List D → Nat
  | [] => 0
  | d :: ds => wtD k d + 2 + wtsD k ds
end
theorem log2_nice {i : Int} {k : Nat} (hk : 0 < k) (h : i.natAbs < 2 ^ k) : i.natAbs.log2 < k := by
  by_cases h0 : i.natAbs = 0
  · rw [h0, show Nat.log2 0 = 0 from by decide]; exact hk
  · exact (Nat.log2_lt h0).mpr h
theorem join_len (sep : Str) : ∀ ts : List Str, (Str.join sep ts).length ≤ (ts.map (·.length)).sum + sep.length * ts.length
  | [] => Nat.zero_le _
  | [x] => by
    show x.length ≤ x.length + 0 + sep.length * 1
    omega
  | x :: y :: r => by
    have h := join_len sep (y :: r)
    show (x ++ sep ++ Str.join sep (y :: r)).length ≤ _
    rw [strLen_append, strLen_append]
    simp only [List.map_cons, List.sum_cons, List.length_cons] at h ⊢
    rw [Nat.mul_add sep.length (r.length + 1) 1]
    omega
theorem strOk_join (sep : String) : ∀ ts : List Str, (∀ t ∈ ts, PyData.strOk t = true) → PyData.strOk (Str.join sep ts) = true
  | [], _ => by unfold Str.join; decide +kernel
  | [x], h => h x (List.mem_cons_self ..)
  | x :: y :: r, h => by
    show PyData.strOk (x ++ sep ++ Str.join sep (y :: r)) = true
    exact strOk_app (strOk_app (h x (List.mem_cons_self ..)) (strOk_of _)) (strOk_join sep (y :: r) fun t ht => h t (List.mem_cons_of_mem _ ht))
theorem strOk_mem {x : Str} : PyData.strOk x = true ↔ ∀ c ∈ x.cps.toList, c < 1114112 := by
  unfold PyData.strOk
  rw [Array.all_eq_true']
  constructor
  · intro h c hc
    exact of_decide_eq_true (h c (Array.mem_toList_iff.mp hc))
  · intro h c hc
    exact decide_eq_true (h c (Array.mem_toList_iff.mpr hc))
theorem char_lt (c : Char) : c.toNat < 1114112 := by
  have h : c.val.toNat.isValidChar := c.valid
  show c.val.toNat < 1114112
  unfold Nat.isValidChar at h
  omega
theorem reprChar_lt (q c : Nat) (hc : c < 1114112) : ∀ d ∈ Builtin.Str.reprChar q c, d < 1114112 := by
  have hx : ∀ w : Nat, ∀ d ∈ List.replicate (w - ((Nat.toDigits 16 c).map Char.toNat).length) 48 ++ (Nat.toDigits 16 c).map Char.toNat, d < 1114112 := fun w d hd => by
    rcases List.mem_append.mp hd with h | h
    · rw [(List.mem_replicate.mp h).2]; decide
    · obtain ⟨ch, _, rfl⟩ := List.mem_map.mp h
      exact char_lt ch
  unfold Builtin.Str.reprChar
  intro d hd
  simp only at hd
  repeat' split at hd
  all_goals simp only [List.mem_append, List.mem_cons, List.not_mem_nil, or_false] at hd
  all_goals first | omega | (rcases hd with hd | hd <;> first | omega | exact hx 2 d (List.mem_append.mpr hd) | exact hx 4 d (List.mem_append.mpr hd) | exact hx 8 d (List.mem_append.mpr hd))
theorem foldl_lt (q : Nat) : ∀ (l : List Nat) (acc : Array Nat), (∀ c ∈ l, c < 1114112) → (∀ c ∈ acc.toList, c < 1114112) → ∀ c ∈ (l.foldl (fun out c => out ++ (Builtin.Str.reprChar q c).toArray) acc).toList, c < 1114112
  | [], acc, _, h => h
  | x :: l, acc, hl, h => by
    rw [List.foldl_cons]
    refine foldl_lt q l _ (fun c hc => hl c (List.mem_cons_of_mem _ hc)) fun c hc => ?_
    rw [Array.toList_append, List.mem_append] at hc
    rcases hc with hc | hc
    · exact h c hc
    · exact reprChar_lt q x (hl x (List.mem_cons_self ..)) c hc
theorem strOk_repr {x : Str} (h : PyData.strOk x = true) : PyData.strOk (reprText x) = true := by
  rw [strOk_mem] at h ⊢
  unfold reprText
  show ∀ c ∈ ((x.cps.foldl (fun out c => out ++ (Builtin.Str.reprChar (reprQuote x) c).toArray) #[reprQuote x]).push (reprQuote x)).toList, c < 1114112
  have hq : reprQuote x < 1114112 := by unfold reprQuote; split <;> decide
  intro c hc
  rw [Array.toList_push, List.mem_append, ← Array.foldl_toList] at hc
  rcases hc with hc | hc
  · exact foldl_lt _ _ _ h (fun c hc => by rw [List.mem_singleton.mp hc]; exact hq) c hc
  · rw [List.mem_singleton.mp hc]; exact hq
section
variable {k : Nat} (hk0 : 0 < k) (hk : k ≤ 1920)
include hk0 hk
mutual
theorem nice_ok : ∀ d : D, niceD k d = true → plain d = true ∧ (toPy d).canLay0 = true ∧ (toPy d).showable = true ∧ (toPy d).hasDict = false ∧ (toPy d).eqv (toPy d) = true ∧ PyData.strOk (toPy d).shown = true ∧ (toPy d).shown.length ≤ wtD k d
  | .non, _ => by refine ⟨rfl, rfl, rfl, rfl, rfl, strOk_of _, ?_⟩; simp only [toPy, PyData.shown, wtD]; decide
  | .bl b, _ => by
    refine ⟨rfl, rfl, rfl, rfl, ?_, ?_, ?_⟩
    · simp [toPy, PyData.eqv]
    · cases b <;> exact strOk_of _
    · simp only [toPy, PyData.shown, wtD]; cases b <;> decide
  | .int i, h => by
    rw [niceD, decide_eq_true_eq] at h
    have hl := log2_nice hk0 h
    refine ⟨rfl, rfl, ?_, rfl, ?_, ?_, ?_⟩
    · rw [toPy, PyData.showable]; exact decide_eq_true (by omega)
    · simp [toPy, PyData.eqv]
    · rw [toPy, PyData.shown]; exact strOk_of _
    · rw [toPy, PyData.shown, wtD]
      have := int_text_length_le hk0 hl
      rw [Str_len]; omega
  | .lst ds, h => by
    rw [niceD] at h
    obtain ⟨h1, h2, h3, h4, h5, h6, h7⟩ := nices_ok ds h
    refine ⟨by rw [DL.plain]; exact h1, by rw [toPy, PyData.canLay0]; exact h2, by rw [toPy, PyData.showable]; exact h3, by rw [toPy, PyData.hasDict]; exact h4, by rw [toPy, PyData.eqv]; exact h5, ?_, ?_⟩
    · rw [toPy, PyData.shown]
      exact strOk_app (strOk_textFrom _ _ _ h6 (strOk_of _)) (strOk_of _)
    · rw [toPy, PyData.shown, wtD]
      have := listText_len_le (PyData.shownAll (toPys ds))
      omega
  | .tup ds, h => by
    rw [niceD] at h
    obtain ⟨h1, h2, h3, h4, h5, h6, h7⟩ := nices_ok ds h
    refine ⟨by rw [DL.plain]; exact h1, by rw [toPy, PyData.canLay0]; exact h2, by rw [toPy, PyData.showable]; exact h3, by rw [toPy, PyData.hasDict]; exact h4, by rw [toPy, PyData.eqv]; exact h5, ?_, ?_⟩
    · rw [toPy, PyData.shown]
      unfold tupleText
      refine strOk_app (strOk_app (strOk_of _) (strOk_join _ _ h6)) ?_
      split <;> exact strOk_of _
    · rw [toPy, PyData.shown, wtD]
      unfold tupleText
      rw [strLen_append, strLen_append]
      have h8 := join_len ", " (PyData.shownAll (toPys ds))
      have h9 : (", " : Str).length = 2 := by decide
      rw [h9] at h8
      have h10 : ("(" : Str).length = 1 := by decide
      have h11 : ((if (PyData.shownAll (toPys ds)).length == 1 then ",)" else ")" : String) : Str).length ≤ 2 := by split <;> decide
      omega
  | .str x, h => by
    rw [niceD] at h
    refine ⟨rfl, by rw [toPy, PyData.canLay0]; exact h, rfl, rfl, ?_, ?_, ?_⟩
    · rw [toPy, PyData.eqv]; exact beq_self_eq_true x
    · rw [toPy, PyData.shown]; exact strOk_repr h
    · rw [toPy, PyData.shown, wtD]
      have := StrLaws.reprText_len x fun c hc => Nat.lt_trans (strOk_mem.mp h c hc) (by decide)
      omega
  | .scr _, h => by simp [niceD] at h
  | .dic _, h => by simp [niceD] at h
  | .dit _, h => by simp [niceD] at h
  | .dkl _, h => by simp [niceD] at h
  | .dtl _, h => by simp [niceD] at h
  | .pnK _ _, h => by simp [niceD] at h
  | .pnT _ _, h => by simp [niceD] at h
  | .obj _ _ _, h => by simp [niceD] at h
  | .cls _, h => by simp [niceD] at h
  | .xcl _ _, h => by simp [niceD] at h
theorem nices_ok : ∀ ds : List D, nicesD k ds = true → plains ds = true ∧ PyData.canLayAll0 (toPys ds) = true ∧ PyData.showableAll (toPys ds) = true ∧ PyData.hasDictAll (toPys ds) = false ∧ PyData.eqvAll (toPys ds) (toPys ds) = true ∧ (∀ t ∈ PyData.shownAll (toPys ds), PyData.strOk t = true) ∧ ((PyData.shownAll (toPys ds)).map (·.length)).sum + 2 * (PyData.shownAll (toPys ds)).length ≤ wtsD k ds
  | [], _ => by refine ⟨rfl, rfl, rfl, rfl, rfl, fun t ht => ?_, ?_⟩ <;> simp_all [toPys, PyData.shownAll, wtsD]
  | d :: ds, h => by
    rw [nicesD, Bool.and_eq_true] at h
    obtain ⟨a1, a2, a3, a4, a5, a6, a7⟩ := nice_ok d h.1
    obtain ⟨h1, h2, h3, h4, h5, h6, h7⟩ := nices_ok ds h.2
    refine ⟨by rw [plains, a1, h1]; rfl, by rw [toPys, PyData.canLayAll0, a2, h2]; rfl, by rw [toPys, PyData.showableAll, a3, h3]; rfl, by rw [toPys, PyData.hasDictAll, a4, h4]; rfl, by rw [toPys, PyData.eqvAll, a5, h5]; rfl, fun t ht => ?_, ?_⟩
    · rw [toPys, PyData.shownAll] at ht
      rcases List.mem_cons.mp ht with e | e
      · rw [e]; exact a6
      · exact h6 t e
    · rw [toPys, PyData.shownAll, wtsD]
      simp only [List.map_cons, List.sum_cons, List.length_cons]
      omega
end
end
/-- nice, not too deep, not too long -/
structure NiceD (d : D) : Prop where
  nice : niceD 256 d = true
  deep : (toPy d).depth ≤ 20
  wt : wtD 256 d ≤ 900000
theorem NiceD.okE {d : D} (h : NiceD d) : okE d = true := by
  have n := nice_ok (k := 256) (by decide) (by decide) d h.nice
  have := h.deep
  simp only [DL.okE, SeqAt.shaped, n.1, n.2.1, Bool.true_and, decide_eq_true_eq]
  omega
theorem NiceD.eqv {d : D} (h : NiceD d) : DL.eqv d d = true := (nice_ok (k := 256) (by decide) (by decide) d h.nice).2.2.2.2.1
theorem NiceD.okR {d : D} (h : NiceD d) : DL.okR d = true := by
  have n := nice_ok (k := 256) (by decide) (by decide) d h.nice
  have := h.deep
  have := h.wt
  simp only [DL.okR, n.1, n.2.2.1, n.2.2.2.1, Bool.true_and, Bool.and_eq_true, decide_eq_true_eq]
  have := n.2.2.2.2.2.2
  refine ⟨⟨by omega, by omega⟩, rfl⟩
theorem NiceD.okS {d : D} (h : NiceD d) : DL.okE (.str (toPy d).shown) = true := okE_strOk (nice_ok (k := 256) (by decide) (by decide) d h.nice).2.2.2.2.2.1
theorem nices_ints {k : Nat} {l : List Int} (h : ∀ x ∈ l, x.natAbs < 2 ^ k) : nicesD k (l.map D.int) = true := by
  induction l with
  | nil => rfl
  | cons x l ih =>
    rw [List.map_cons, nicesD, niceD, decide_eq_true (h x (List.mem_cons_self ..)), ih fun y hy => h y (List.mem_cons_of_mem _ hy)]; rfl
theorem wts_ints {k : Nat} (l : List Int) : wtsD k (l.map D.int) = l.length * (k + 3) := by
  induction l with
  | nil => simp [wtsD]
  | cons x l ih => rw [List.map_cons, wtsD, wtD, ih, List.length_cons, Nat.add_mul]; omega
theorem NiceD.ints {l : List Int} (h : ∀ x ∈ l, x.natAbs < 2 ^ 256) (hl : l.length ≤ 3000) : NiceD (.lst (l.map D.int)) := by
  refine ⟨by rw [niceD]; exact nices_ints h, ?_, ?_⟩
  · rw [toPy, toPys_ints, PyData.depth, depth_ints]; decide
  · rw [wtD, wts_ints]; omega
theorem NiceD.int {i : Int} (h : i.natAbs < 2 ^ 256) : NiceD (.int i) := ⟨decide_eq_true h, by simp [toPy, PyData.depth], by simp [wtD]⟩
theorem NiceD.bl {i : Bool} : NiceD (.bl i) := ⟨rfl, by simp [toPy, PyData.depth], by simp [wtD]⟩
theorem NiceD.non : NiceD .non := ⟨rfl, by decide, by decide⟩
end DL
/-! the data layer, part 22: lists -/
namespace DL
open PySem PySem.Spec PyProof.Rows L2
theorem sIx_some {n : Nat} {d : Nat} {k : Int} (h0 : 0 ≤ k) (h : k ≤ n) : HT.sIx n d (some k) = k.toNat := by
  show (if k < 0 then (k + n).toNat else min k.toNat n) = k.toNat
  rw [if_neg (by omega)]; omega
theorem cutD_from {l : List D} {k : Int} (h0 : 0 ≤ k) (h : k ≤ l.length) : DL.cutD l (some k) none = l.drop k.toNat := by
  unfold DL.cutD
  rw [sIx_some h0 h, show HT.sIx l.length l.length none = l.length from rfl, List.take_of_length_le (by rw [List.length_drop]; omega)]
theorem cutD_to {l : List D} {k : Int} (h0 : 0 ≤ k) (h : k ≤ l.length) : DL.cutD l none (some k) = l.take k.toNat := by
  unfold DL.cutD
  rw [sIx_some h0 h, show HT.sIx l.length 0 none = 0 from rfl, List.drop_zero, Nat.sub_zero]
theorem ig_mem {l : List Int} {i : Int} (h : -(l.length : Int) ≤ i ∧ i < l.length) : ig l i ∈ l := by
  unfold ig
  by_cases h0 : 0 ≤ i
  · rw [if_pos h0, List.getD_eq_getElem?_getD, List.getElem?_eq_getElem (by omega)]
    exact List.getElem_mem _
  · rw [if_neg h0, List.getD_eq_getElem?_getD, List.getElem?_eq_getElem (by omega)]
    exact List.getElem_mem _
theorem ig_get {l : List Int} {i : Nat} (h : i < l.length) : ig l (i : Int) = l[i] := by
  unfold ig
  rw [if_pos (by omega), List.getD_eq_getElem?_getD, List.getElem?_eq_getElem (by omega)]
  rfl
/-- a comprehension over ints that gives one int for each -/
def mapG (f : Int → Int) : D → Option D
  | .int r => some (.int (f r))
  | _ => none
theorem mapG_all (f : Int → Int) : ∀ l : List Int, (l.map D.int).filterMap (mapG f) = (l.map f).map D.int
  | [] => rfl
  | r :: l => by rw [List.map_cons, List.map_cons, List.map_cons, List.filterMap_cons_some (show mapG f (.int r) = some (.int (f r)) from rfl), mapG_all f l]
/-- a comprehension over ints that keeps some -/
def filG (p : Int → Bool) : D → Option D
  | .int r => if p r = true then some (.int r) else none
  | _ => none
theorem filG_T {p : Int → Bool} {r : Int} (h : p r = true) : filG p (.int r) = some (.int r) := if_pos h
theorem filG_F {p : Int → Bool} {r : Int} (h : p r = false) : filG p (.int r) = none := if_neg (by rw [h]; exact Bool.false_ne_true)
theorem filG_all (p : Int → Bool) : ∀ l : List Int, (l.map D.int).filterMap (filG p) = (l.filter p).map D.int
  | [] => rfl
  | r :: l => by
    rw [List.map_cons, List.filter_cons]
    cases h : p r with
    | true => rw [List.filterMap_cons_some (filG_T h), filG_all p l, if_pos rfl]; rfl
    | false => rw [List.filterMap_cons_none (filG_F h), filG_all p l, if_neg Bool.false_ne_true]
theorem i_minL {l : List Int} {Q : Res → Prop} (h0 : 0 < l.length) (h : ∀ m, m ∈ l → (∀ y, y ∈ l → m ≤ y) → Q (.val (.int m))) : minD [.lst (l.map D.int)] Q := ⟨l, ints?_map l, h0, h⟩
theorem i_maxL {l : List Int} {Q : Res → Prop} (h0 : 0 < l.length) (h : ∀ m, m ∈ l → (∀ y, y ∈ l → y ≤ m) → Q (.val (.int m))) : maxD [.lst (l.map D.int)] Q := ⟨l, ints?_map l, h0, h⟩
theorem i_minT {l : List Int} {Q : Res → Prop} (h0 : 0 < l.length) (h : ∀ m, m ∈ l → (∀ y, y ∈ l → m ≤ y) → Q (.val (.int m))) : minD [.tup (l.map D.int)] Q := ⟨_, ints?_map l, h0, h⟩
theorem i_maxT {l : List Int} {Q : Res → Prop} (h0 : 0 < l.length) (h : ∀ m, m ∈ l → (∀ y, y ∈ l → y ≤ m) → Q (.val (.int m))) : maxD [.tup (l.map D.int)] Q := ⟨_, ints?_map l, h0, h⟩
theorem sorted_ints {ns ms ks : List Int} (p : ms.Perm ns) (s : ms.Pairwise (· ≤ ·)) (p2 : ks.Perm ns) (s2 : ks.Pairwise (· ≤ ·)) : ms = ks := by
  refine List.Perm.eq_of_pairwise (le := (· ≤ ·)) (fun a b _ _ h1 h2 => Int.le_antisymm h1 h2) s s2 (p.trans p2.symm)
theorem i_bag {ns : List Int} {Q : Bool → D → List D → Prop} {E : EdT} (h : ∀ b, BagD b → Q true b []) : bagD [.scr (ns.map D.int)] Q E := ⟨ns, rfl, h⟩
theorem s_par3 {rs : List Res} {n : Nat} {P : Prop} (h1 : rs.length = n) (h : P) : rs.length = n ∧ P := ⟨h1, h⟩
theorem i_stN {l : List Int} {k : Nat} {x : Int} {Q : D → Prop} (h1 : k < l.length) (h : Q (.lst ((l.set k x).map D.int))) : stD (.lst (l.map D.int)) (.int (k : Int)) (.int x) Q := by
  refine ⟨k, by rw [List.length_map]; exact ixN_nat h1, ?_⟩
  rw [← List.map_set]; exact h
theorem i_stP {l : List Int} {k : Int} {x : Int} {Q : D → Prop} (h0 : 0 ≤ k) (h1 : k < l.length) (h : Q (.lst ((l.set k.toNat x).map D.int))) : stD (.lst (l.map D.int)) (.int k) (.int x) Q := by
  refine ⟨k.toNat, by rw [List.length_map]; exact ixN_pos h0 h1, ?_⟩
  rw [← List.map_set]; exact h
theorem rep_one (x : D) : ∀ n : Nat, (List.replicate n [x]).flatten = List.replicate n x
  | 0 => rfl
  | n + 1 => by rw [List.replicate_succ, List.replicate_succ, List.flatten_cons, rep_one x n]; rfl
theorem i_mulR {n : Nat} {x : Int} {Q : Res → Prop} (h1 : n ≤ 100000) (h : Q (.fr (.lst ((List.replicate n x).map D.int)))) : mulD (.lst [.int x]) (.int (n : Int)) Q := by
  refine ⟨⟨by omega, by omega, ?_⟩, ?_⟩
  · show 1 * ((n : Int)).toNat ≤ _
    omega
  · rw [Int.toNat_natCast, rep_one, ← List.map_replicate]; exact h
theorem i_appendI {l : List Int} {x : Int} {Q : D → Res → Prop} (h1 : l.length < 100000) (h : Q (.lst ((l ++ [x]).map D.int)) (.val .non)) : appendD (.lst (l.map D.int)) [.int x] Q := by
  refine ⟨by rw [List.length_map]; exact h1, ?_⟩
  rw [List.map_append] at h; exact h
theorem i_popI {l : List Int} {k : Int} {Q : D → Res → Prop} (h0 : 0 ≤ k) (h1 : k < l.length) (h2 : l.length < 2 ^ 63) (h : Q (.lst ((l.eraseIdx k.toNat).map D.int)) (.val (.int (ig l k)))) : popD (.lst (l.map D.int)) [.int k] Q := by
  refine ⟨⟨by omega, by omega⟩, k.toNat, .int (ig l k), ?_, ?_, ?_⟩
  · unfold seqIndex?
    rw [List.length_map]
    simp only [show ¬ k < 0 by omega, if_false]
    rw [if_pos (by rw [Bool.and_eq_true, decide_eq_true_eq, decide_eq_true_eq]; exact ⟨h0, h1⟩)]
  · rw [List.getElem?_map, List.getElem?_eq_getElem (by omega)]
    have e : k = ((k.toNat : Nat) : Int) := by omega
    have := ig_get (l := l) (i := k.toNat) (by omega)
    rw [← e] at this
    rw [this]; rfl
  · have e : ∀ (l : List Int) (k : Nat), (l.map D.int).eraseIdx k = (l.eraseIdx k).map D.int := fun l => by
      induction l with
      | nil => intro k; rfl
      | cons x l ih =>
        intro k
        cases k with
        | zero => rfl
        | succ k => simp only [List.map_cons, List.eraseIdx_cons_succ, ih]
    rw [e]; exact h
/-- how great drawn ranks are -/
abbrev rkOk (x : Int) : Prop := -(10 ^ 12) ≤ x ∧ x ≤ 10 ^ 39
/-- what every law's own def promises -/
abbrev slawD : DSp := fun ds Q _ => ∃ ns : List Int, ds = [.scr (ns.map D.int)] ∧ Q false (.bl true) []
theorem law_fin (ns : List Int) : slawD [.scr (ns.map D.int)] (fun _ d _ => d = .bl true) noX := ⟨ns, rfl, rfl⟩
end DL
/-! the data layer, part 23: rings, outcomes, calls: plain mathematics -/
namespace DL
open PySem PySem.Spec PyProof.Rows L2
/-! ### lists by places -/
theorem ig_nat (l : List Int) (i : Nat) : ig l (i : Int) = l.getD i 0 := by
  unfold ig
  rw [if_pos (by omega)]; rfl
theorem ig_set {l : List Int} {i j : Nat} {x : Int} (hi : i < l.length) : ig (l.set i x) (j : Int) = if i = j then x else ig l (j : Int) := by
  rw [ig_nat, ig_nat, List.getD_eq_getElem?_getD, List.getD_eq_getElem?_getD]
  by_cases h : i = j
  · subst h
    rw [if_pos rfl, List.getElem?_set_self hi]; rfl
  · rw [if_neg h, List.getElem?_set_ne h]
theorem ig_range {n i : Nat} (f : Nat → Int) (h : i < n) : ig ((List.range n).map f) (i : Int) = f i := by
  rw [ig_get (by simpa using h), List.getElem_map, List.getElem_range]
theorem ig_ext {l m : List Int} (h1 : l.length = m.length) (h : ∀ i : Nat, i < l.length → ig l (i : Int) = ig m (i : Int)) : l = m := by
  apply List.ext_getElem h1
  intro i a b
  have := h i a
  rw [ig_get a, ig_get b] at this
  exact this
theorem sum_set : ∀ {l : List Int} {i : Nat} {x : Int}, i < l.length → (l.set i x).sum = l.sum - ig l (i : Int) + x
  | [], _, _, h => absurd h (by simp)
  | y :: l, 0, x, _ => by
    rw [List.set_cons_zero, List.sum_cons, List.sum_cons, ig_nat]
    show x + l.sum = y + l.sum - y + x
    omega
  | y :: l, i + 1, x, h => by
    have ih := sum_set (l := l) (i := i) (x := x) (by simpa using h)
    rw [List.set_cons_succ, List.sum_cons, List.sum_cons, ih, ig_nat, ig_nat]
    show _ = y + l.sum - l.getD i 0 + x
    omega
theorem perm_sum {l m : List Int} (h : l.Perm m) : l.sum = m.sum := by
  induction h with
  | nil => rfl
  | cons x _ ih => rw [List.sum_cons, List.sum_cons, ih]
  | swap x y l => simp only [List.sum_cons]; omega
  | trans _ _ h1 h2 => exact h1.trans h2
/-! ### outcomes -/
/-- the places 0, 1, .. as ints -/
def iota (n : Nat) : List Int := (List.range n).map fun i => ((i : Nat) : Int)
theorem iota_len (n : Nat) : (iota n).length = n := by simp [iota]
theorem ig_iota {n i : Nat} (h : i < n) : ig (iota n) (i : Int) = i := ig_range _ h
theorem mem_iota {n : Nat} {x : Int} : x ∈ iota n ↔ 0 ≤ x ∧ x < n := by
  unfold iota
  rw [List.mem_map]
  constructor
  · rintro ⟨i, hi, rfl⟩
    have := List.mem_range.mp hi
    omega
  · intro ⟨h0, h1⟩
    exact ⟨x.toNat, List.mem_range.mpr (by omega), by omega⟩
theorem iota_nodup (n : Nat) : (iota n).Nodup := by
  unfold iota
  rw [List.nodup_iff_pairwise_ne, List.pairwise_map]
  exact (List.nodup_iff_pairwise_ne.mp (List.nodup_range (n := n))).imp fun h => by omega
theorem ig_iota_self (t : List Int) : ∀ k, k ≤ t.length → (iota k).map (fun i => ig t i) = t.take k := by
  intro k hk
  refine List.ext_getElem (by rw [List.length_map, iota_len, List.length_take]; omega) fun i h1 h2 => ?_
  rw [List.length_map, iota_len] at h1
  rw [List.getElem_map, List.getElem_take, ← ig_get (by rw [iota_len]; exact h1), ig_iota h1, ig_get (by omega)]
/-- one number for each rest, their sum that of the places -/
structure Out (n : Nat) (o : List Int) : Prop where
  len : o.length = n
  inj : ∀ i j : Nat, i < n → j < n → ig o (i : Int) % (n : Int) = ig o (j : Int) % (n : Int) → i = j
  sur : ∀ i : Nat, i < n → ∃ p : Nat, p < n ∧ ig o (p : Int) % (n : Int) = i
  sum : o.sum = (iota n).sum
theorem out_perm {n : Nat} {o : List Int} (h : (o.map fun x => x % (n : Int)).Perm (iota n)) (hs : o.sum = (iota n).sum) : Out n o := by
  have hl : o.length = n := by have := h.length_eq; rw [List.length_map, iota_len] at this; exact this
  refine ⟨hl, fun i j hi hj e => ?_, fun i hi => ?_, hs⟩
  · have nd : (o.map fun x => x % (n : Int)).Nodup := h.nodup_iff.mpr (iota_nodup n)
    have e2 : (o.map fun x => x % (n : Int))[i]'(by rw [List.length_map]; omega) = (o.map fun x => x % (n : Int))[j]'(by rw [List.length_map]; omega) := by
      rw [List.getElem_map, List.getElem_map, ← ig_get (l := o) (i := i) (by omega), ← ig_get (l := o) (i := j) (by omega)]; exact e
    exact (List.getElem_inj nd).mp e2
  · have hm : ((i : Nat) : Int) ∈ o.map fun x => x % (n : Int) := h.mem_iff.mpr (mem_iota.mpr ⟨by omega, by omega⟩)
    obtain ⟨x, hx, e⟩ := List.mem_map.mp hm
    obtain ⟨p, hp, rfl⟩ := List.mem_iff_getElem.mp hx
    exact ⟨p, by omega, by rw [ig_get hp]; exact e⟩
theorem out_iota (n : Nat) : Out n (iota n) := by
  refine ⟨iota_len n, fun i j hi hj e => ?_, fun i hi => ⟨i, hi, ?_⟩, rfl⟩
  · rw [ig_iota hi, ig_iota hj, Int.emod_eq_of_lt (by omega) (by omega), Int.emod_eq_of_lt (by omega) (by omega)] at e
    omega
  · rw [ig_iota hi, Int.emod_eq_of_lt (by omega) (by omega)]
theorem Out.res {n : Nat} {o : List Int} (_ : Out n o) {i : Nat} (hi : i < n) : 0 ≤ ig o (i : Int) % (n : Int) ∧ ig o (i : Int) % (n : Int) < n := ⟨Int.emod_nonneg _ (by omega), Int.emod_lt_of_pos _ (by omega)⟩
/-- where the copy that begins at an unrolled place ends -/
def endAt (o : List Int) (x : Int) : Int := ig o (x % o.length) + x / o.length * o.length
theorem endAt_lap (o : List Int) (x k : Int) (h : 0 < o.length) : endAt o (x + k * o.length) = endAt o x + k * o.length := by
  unfold endAt
  rw [Int.add_mul_emod_self_right, Int.add_mul_ediv_right _ _ (by omega), Int.add_mul]
  omega
theorem endAt_nat {o : List Int} {i : Nat} (h : i < o.length) : endAt o (i : Int) = ig o (i : Int) := by
  unfold endAt
  rw [Int.emod_eq_of_lt (by omega) (by omega), Int.ediv_eq_zero_of_lt (by omega) (by omega)]
  omega
/-- an unrolled place: its place and its laps -/
theorem unroll (n : Nat) (h : 0 < n) (x : Int) : ∃ i : Nat, i < n ∧ x % (n : Int) = i ∧ x = i + x / (n : Int) * n := by
  have r0 := Int.emod_nonneg x (show (n : Int) ≠ 0 by omega)
  have r1 := Int.emod_lt_of_pos x (show (0 : Int) < n by omega)
  refine ⟨(x % n).toNat, by omega, by omega, ?_⟩
  have := Int.emod_add_mul_ediv x n
  rw [Int.mul_comm (x / n) n]
  omega
theorem Out.endAt_inj {n : Nat} {o : List Int} (O : Out n o) (h0 : 0 < n) {x y : Int} (h : endAt o x = endAt o y) : x = y := by
  have e := O.len
  unfold endAt at h
  rw [e] at h
  obtain ⟨i, hi, ei, exx⟩ := unroll n h0 x
  obtain ⟨j, hj, ej, eyy⟩ := unroll n h0 y
  rw [ei, ej] at h
  have hm : ig o (i : Int) % (n : Int) = ig o (j : Int) % (n : Int) := by
    have := congrArg (· % (n : Int)) h
    simpa [Int.add_mul_emod_self_right] using this
  have := O.inj i j hi hj hm
  subst this
  have hq : x / (n : Int) * n = y / (n : Int) * n := by omega
  omega
theorem sum_map_sub {α : Type} (l : List α) (f g : α → Int) : (l.map fun x => f x - g x).sum = (l.map f).sum - (l.map g).sum := by
  induction l with
  | nil => rfl
  | cons x l ih => simp only [List.map_cons, List.sum_cons, ih]; omega
theorem sum_map_add {α : Type} (l : List α) (f g : α → Int) : (l.map fun x => f x + g x).sum = (l.map f).sum + (l.map g).sum := by
  induction l with
  | nil => rfl
  | cons x l ih => simp only [List.map_cons, List.sum_cons, ih]; omega
theorem Out.perm {n : Nat} {o : List Int} (O : Out n o) : (o.map fun x => x % (n : Int)).Perm (iota n) := by
  have nd : (o.map fun x => x % (n : Int)).Nodup := by
    rw [List.nodup_iff_pairwise_ne, List.pairwise_map, List.pairwise_iff_getElem]
    intro i j hi hj hij e
    have hn := O.len
    have := O.inj i j (by omega) (by omega) (by rw [ig_get hi, ig_get hj]; exact e)
    omega
  refine (List.perm_ext_iff_of_nodup nd (iota_nodup n)).mpr fun a => ?_
  rw [mem_iota]
  constructor
  · intro h
    obtain ⟨x, hx, rfl⟩ := List.mem_map.mp h
    have : 0 < n := by
      rw [← O.len]; exact List.length_pos_of_mem hx
    exact ⟨Int.emod_nonneg _ (by omega), Int.emod_lt_of_pos _ (by omega)⟩
  · intro ⟨h0, h1⟩
    obtain ⟨p, hp, e⟩ := O.sur a.toNat (by omega)
    have hl := O.len
    refine List.mem_map.mpr ⟨ig o p, ?_, by omega⟩
    rw [ig_get (by omega)]
    exact List.getElem_mem _
/-- the way back -/
def invO (t : List Int) : List Int := (List.range t.length).map fun (i : Nat) => match (List.range t.length).find? (fun p => decide (ig t ((p : Nat) : Int) % (t.length : Int) = i)) with
  | some p => (p : Int) - ig t (p : Int) / t.length * t.length
  | none => 0
theorem invO_len (t : List Int) : (invO t).length = t.length := by simp [invO]
theorem Out.inv_at {n : Nat} {t : List Int} (O : Out n t) {p : Nat} (hp : p < n) : ig (invO t) (ig t (p : Int) % (n : Int)) = p - ig t (p : Int) / n * n := by
  have hl := O.len
  obtain ⟨r0, r1⟩ := O.res hp
  obtain ⟨i, hi⟩ := Int.eq_ofNat_of_zero_le r0
  rw [hi] at r1 ⊢
  unfold invO
  rw [ig_range _ (by omega), hl]
  have hf : (List.range n).find? (fun q => decide (ig t ((q : Nat) : Int) % (n : Int) = i)) = some p := by
    cases e : (List.range n).find? (fun q => decide (ig t ((q : Nat) : Int) % (n : Int) = i)) with
    | none =>
      have := List.find?_eq_none.mp e p (List.mem_range.mpr hp)
      simp [hi] at this
    | some q =>
      have h1 := List.find?_some e
      have h2 := List.mem_range.mp (List.mem_of_find?_eq_some e)
      have h1 : ig t ((q : Nat) : Int) % (n : Int) = i := by simpa using h1
      rw [O.inj q p h2 hp (by rw [h1, hi])]
  rw [hf]
theorem Out.inv_uniq {n : Nat} {t l : List Int} (O : Out n t) (hl : l.length = n) (h : ∀ p : Nat, p < n → ig l (ig t (p : Int) % (n : Int)) = p - ig t (p : Int) / n * n) : l = invO t := by
  refine ig_ext (by rw [hl, invO_len, O.len]) fun i hi => ?_
  obtain ⟨p, hp, e⟩ := O.sur i (by omega)
  rw [← e, h p hp, O.inv_at hp]
theorem sub_mul_emod' (p q : Int) (n : Nat) : (p - q * n) % (n : Int) = p % (n : Int) := by
  rw [show p - q * n = p + (-q) * n by rw [Int.neg_mul]; omega, Int.add_mul_emod_self_right]
theorem Out.inv {n : Nat} {t : List Int} (O : Out n t) : Out n (invO t) := by
  have hl := O.len
  have key : ∀ i : Nat, i < n → ∃ p : Nat, p < n ∧ ig t (p : Int) % (n : Int) = i ∧ ig (invO t) (i : Int) % (n : Int) = p := fun i hi => by
    obtain ⟨p, hp, e⟩ := O.sur i hi
    refine ⟨p, hp, e, ?_⟩
    rw [← e, O.inv_at hp, sub_mul_emod', Int.emod_eq_of_lt (by omega) (by omega)]
  refine ⟨by rw [invO_len, hl], fun i j hi hj e => ?_, fun p hp => ?_, ?_⟩
  · obtain ⟨p, hp, e1, e2⟩ := key i hi
    obtain ⟨q, hq, e3, e4⟩ := key j hj
    have : p = q := by omega
    subst this
    omega
  · obtain ⟨r0, r1⟩ := O.res hp
    refine ⟨(ig t (p : Int) % (n : Int)).toNat, by omega, ?_⟩
    rw [show (((ig t (p : Int) % (n : Int)).toNat : Nat) : Int) = ig t (p : Int) % (n : Int) by omega, O.inv_at hp, sub_mul_emod', Int.emod_eq_of_lt (by omega) (by omega)]
  · have e1 : (invO t).sum = ((iota n).map fun i => ig (invO t) i).sum := by
      have := ig_iota_self (invO t) n (by rw [invO_len]; omega)
      rw [this, List.take_of_length_le (by rw [invO_len]; omega)]
    have e2 := perm_sum (O.perm.map fun i => ig (invO t) i)
    have et : t = (iota n).map fun i => ig t i := by
      have := ig_iota_self t n (by omega)
      rw [this, List.take_of_length_le (by omega)]
    have e3 : ((t.map fun x => x % (n : Int)).map fun i => ig (invO t) i) = (iota n).map fun p => p - ig t p / n * n := by
      rw [show (t.map fun x => x % (n : Int)) = ((iota n).map fun i => ig t i).map fun x => x % (n : Int) from congrArg (List.map fun x => x % (n : Int)) et, List.map_map, List.map_map]
      refine List.map_congr_left fun p hp => ?_
      obtain ⟨h0, h1⟩ := mem_iota.mp hp
      obtain ⟨q, rfl⟩ := Int.eq_ofNat_of_zero_le h0
      exact O.inv_at (p := q) (by omega)
    rw [e1, ← e2, e3, sum_map_sub]
    have s1 : t.sum = (iota n).sum := O.sum
    have s2 : t.sum = ((iota n).map fun p => ig t p % n).sum + ((iota n).map fun p => ig t p / n * n).sum := by
      conv => lhs; rw [et]
      rw [← sum_map_add]
      congr 1
      refine List.map_congr_left fun p _ => ?_
      have := Int.emod_add_mul_ediv (ig t p) n
      rw [Int.mul_comm (ig t p / n) n]
      exact this.symm
    have s3 : ((iota n).map fun p => ig t p % n).sum = (iota n).sum := by
      have := perm_sum O.perm
      rw [show (t.map fun x => x % (n : Int)) = ((iota n).map fun i => ig t i).map fun x => x % (n : Int) from congrArg (List.map fun x => x % (n : Int)) et, List.map_map] at this
      exact this
    simp only [List.map_id'] at *
    omega
theorem Out.inv_inv {n : Nat} {t : List Int} (O : Out n t) : invO (invO t) = t := by
  have hl := O.len
  refine (O.inv.inv_uniq hl fun i hi => ?_).symm
  obtain ⟨p, hp, e⟩ := O.sur i hi
  have e2 := O.inv_at hp
  rw [e] at e2
  rw [e2, sub_mul_emod', Int.emod_eq_of_lt (by omega) (by omega)]
  have e3 : (p - ig t (p : Int) / n * n : Int) / n = - (ig t (p : Int) / n) := by
    rw [show (p - ig t (p : Int) / n * n : Int) = p + (-(ig t (p : Int) / n)) * n by rw [Int.neg_mul]; omega, Int.add_mul_ediv_right _ _ (by omega), Int.ediv_eq_zero_of_lt (by omega) (by omega)]
    omega
  rw [e3, Int.neg_mul]
  have := Int.emod_add_mul_ediv (ig t (p : Int)) n
  rw [Int.mul_comm] at this
  omega
/-- back and forth -/
theorem Out.end_inv {n : Nat} {t : List Int} (O : Out n t) (h0 : 0 < n) (x : Int) : endAt (invO t) (endAt t x) = x := by
  have hl := O.len
  obtain ⟨i, hi, ei, exx⟩ := unroll n h0 x
  have e : endAt t x = ig t (i : Int) + x / n * n := by unfold endAt; rw [hl, ei]
  rw [e]
  have e2 := endAt_lap (invO t) (ig t (i : Int)) (x / n) (by rw [invO_len]; omega)
  rw [invO_len, hl] at e2
  rw [e2]
  unfold endAt
  rw [invO_len, hl, O.inv_at hi]
  omega
/-- the way back, filled in up to place k -/
structure Scat (n : Nat) (t l : List Int) (k : Nat) : Prop where
  len : l.length = n
  at_ : ∀ p : Nat, p < k → ig l (ig t (p : Int) % (n : Int)) = p - ig t (p : Int) / n * n
theorem Scat.zero (n : Nat) (t : List Int) : Scat n t (List.replicate n 0) 0 := ⟨List.length_replicate, fun _ h => absurd h (Nat.not_lt_zero _)⟩
theorem Scat.step {n : Nat} {t l : List Int} {k : Nat} (O : Out n t) (S : Scat n t l k) (hk : k < n) : Scat n t (l.set (ig t (k : Int) % (n : Int)).toNat (k - ig t (k : Int) + ig t (k : Int) % (n : Int))) (k + 1) := by
  obtain ⟨r0, r1⟩ := O.res hk
  refine ⟨by rw [List.length_set, S.len], fun p hp => ?_⟩
  obtain ⟨q0, q1⟩ := O.res (i := p) (by omega)
  have e : ig t (p : Int) % (n : Int) = (((ig t (p : Int) % (n : Int)).toNat : Nat) : Int) := by omega
  rw [e, ig_set (by rw [S.len]; omega), ← e]
  by_cases h : p = k
  · subst h
    rw [if_pos rfl]
    have := Int.emod_add_mul_ediv (ig t (p : Int)) n
    rw [Int.mul_comm] at this
    omega
  · rw [if_neg fun z => h (O.inj p k (by omega) hk (by omega)), S.at_ p (by omega)]
theorem Scat.done {n : Nat} {t l : List Int} (O : Out n t) (S : Scat n t l n) : l = invO t := O.inv_uniq S.len S.at_
/-! ### calls -/
/-- the place behind a gap, and the laps between -/
def nxP (n g : Nat) : Nat := if g + 1 < n then g + 1 else 0
def shP (n g : Nat) : Int := if g + 1 < n then 0 else n
def swapT (t : List Int) (g : Nat) : List Int := (t.set g (ig t (nxP t.length g : Nat) + shP t.length g)).set (nxP t.length g) (ig t (g : Int) - shP t.length g)
/-- the rank of the copy that begins at an unrolled place -/
def rkP (r : List Int) (x : Int) : Int := ig r (x % r.length)
def passT (r t : List Int) (g : Nat) : Bool := decide (rkP r (ig t (nxP t.length g : Nat) + shP t.length g) < rkP r (ig t (g : Int)))
def callT (r t : List Int) (g : Nat) : List Int := if passT r t g = true then swapT t g else t
theorem nxP_lt {n g : Nat} (h : 0 < n) : nxP n g < n := by unfold nxP; split <;> omega
theorem nxP_ne {n g : Nat} (h : 2 ≤ n) (hg : g < n) : nxP n g ≠ g := by unfold nxP; split <;> omega
theorem shP_mod (n g : Nat) (x : Int) : (x + shP n g) % (n : Int) = x % (n : Int) ∧ (x - shP n g) % (n : Int) = x % (n : Int) := by
  unfold shP
  split
  · simp
  · exact ⟨by rw [Int.add_emod_right], by rw [Int.sub_emod_right]⟩
theorem swapT_len (t : List Int) (g : Nat) : (swapT t g).length = t.length := by simp [swapT]
theorem swapT_at {n : Nat} {t : List Int} (hl : t.length = n) {g : Nat} (hg : g < n) (p : Nat) : ig (swapT t g) (p : Int) = if nxP n g = p then ig t (g : Int) - shP n g else if g = p then ig t (nxP n g : Nat) + shP n g else ig t (p : Int) := by
  unfold swapT
  rw [hl, ig_set (by rw [List.length_set, hl]; exact nxP_lt (by omega)), ig_set (by omega)]
/-- who stands there otherwise -/
def tau (n g p : Nat) : Nat := if nxP n g = p then g else if g = p then nxP n g else p
theorem tau_lt {n g p : Nat} (hg : g < n) (hp : p < n) : tau n g p < n := by
  have := nxP_lt (n := n) (g := g) (by omega)
  unfold tau; split
  · exact hg
  · split <;> omega
theorem tau_tau {n g p : Nat} (h2 : 2 ≤ n) (hg : g < n) : tau n g (tau n g p) = p := by
  have := nxP_ne h2 hg
  unfold tau
  repeat' split
  all_goals first | omega | (simp_all; try omega)
theorem swapT_res {n : Nat} {t : List Int} (hl : t.length = n) {g : Nat} (hg : g < n) (p : Nat) : ig (swapT t g) (p : Int) % (n : Int) = ig t (tau n g p : Nat) % (n : Int) := by
  rw [swapT_at hl hg]
  unfold tau
  split
  · exact (shP_mod n g _).2
  · split
    · exact (shP_mod n g _).1
    · rfl
theorem Out.swap {n : Nat} {t : List Int} (O : Out n t) (h2 : 2 ≤ n) {g : Nat} (hg : g < n) : Out n (swapT t g) := by
  have hl := O.len
  refine ⟨by rw [swapT_len, hl], fun i j hi hj e => ?_, fun i hi => ?_, ?_⟩
  · rw [swapT_res hl hg, swapT_res hl hg] at e
    have := O.inj _ _ (tau_lt hg hi) (tau_lt hg hj) e
    rw [← tau_tau (p := i) h2 hg, this, tau_tau h2 hg]
  · obtain ⟨p, hp, e⟩ := O.sur i hi
    exact ⟨tau n g p, tau_lt hg hp, by rw [swapT_res hl hg, tau_tau h2 hg, e]⟩
  · have hx := nxP_lt (n := n) (g := g) (by omega)
    unfold swapT
    rw [hl, sum_set (by rw [List.length_set, hl]; exact hx), sum_set (by omega), ig_set (by omega), if_neg (nxP_ne h2 hg).symm, O.sum]
    omega
theorem callT_len (r t : List Int) (g : Nat) : (callT r t g).length = t.length := by
  unfold callT; split
  · exact swapT_len t g
  · rfl
theorem Out.call {n : Nat} {t : List Int} (O : Out n t) (h2 : 2 ≤ n) (r : List Int) {g : Nat} (hg : g < n) : Out n (callT r t g) := by
  unfold callT; split
  · exact O.swap h2 hg
  · exact O
/-- the copies at the places after a schedule -/
def runT (r : List Int) : List Int → List Int → List Int
  | [], t => t
  | g :: gs, t => runT r gs (callT r t g.toNat)
theorem Out.run {n : Nat} (h2 : 2 ≤ n) (r : List Int) : ∀ (gs t : List Int), (∀ g ∈ gs, 0 ≤ g ∧ g < n) → Out n t → Out n (runT r gs t)
  | [], _, _, O => O
  | g :: gs, t, h, O => by
    have := h g (List.mem_cons_self ..)
    exact Out.run h2 r gs _ (fun x hx => h x (List.mem_cons_of_mem _ hx)) (O.call h2 r (by omega))
/-- a schedule for rings of n places -/
structure Sch (n : Int) (l : List Int) : Prop where
  mem : ∀ g ∈ l, 0 ≤ g ∧ g < n
/-- the indexes of the calls at which somebody passes, from k on -/
def passed (r : List Int) : List Int → List Int → Int → List Int
  | [], _, _ => []
  | g :: gs, t, k => if passT r t g.toNat = true then k :: passed r gs (callT r t g.toNat) (k + 1) else passed r gs (callT r t g.toNat) (k + 1)
end DL
/-! the data layer, part 24: those that are carried over a moment: plain mathematics -/
namespace DL
open PySem PySem.Spec PyProof.Rows L2
theorem sum_congr {n : Nat} {f g : Nat → Int} (h : ∀ i, i < n → f i = g i) : ((List.range n).map f).sum = ((List.range n).map g).sum := by
  congr 1
  exact List.map_congr_left fun i hi => h i (List.mem_range.mp hi)
/-- two sums that differ at one place -/
theorem sum_one {f g : Nat → Int} {d : Int} {j : Nat} : ∀ {n : Nat}, j < n → (∀ i, i < n → i ≠ j → f i = g i) → f j = g j + d → ((List.range n).map f).sum = ((List.range n).map g).sum + d
  | 0, hj, _, _ => absurd hj (Nat.not_lt_zero _)
  | n + 1, hj, h, e => by
    rw [List.range_succ, List.map_append, List.map_append, List.sum_append, List.sum_append, List.map_singleton, List.map_singleton, List.sum_singleton, List.sum_singleton]
    by_cases hn : j = n
    · subst hn
      rw [sum_congr (n := j) (f := f) (g := g) fun i hi => h i (by omega) (by omega), e]
      omega
    · rw [sum_one (n := n) (by omega) (fun i hi => h i (by omega)) e, h n (by omega) (by omega)]
      omega
theorem sum_zero {n : Nat} {f : Nat → Int} (h : ∀ i, i < n → f i = 0) : ((List.range n).map f).sum = 0 := by
  rw [sum_congr h]
  induction n with
  | zero => rfl
  | succ n ih =>
    rw [List.range_succ, List.map_append, List.sum_append, ih fun i hi => h i (by omega)]
    rfl
/-- the copies of one person that begin up to b and end behind e -/
def carr1 (n : Nat) (b e p x : Int) : Int := max 0 ((b - p) / n - (e - x) / n)
def carrF (n : Nat) (b e : Int) : Int → List Int → Int
  | _, [] => 0
  | p, x :: o => carr1 n b e p x + carrF n b e (p + 1) o
def carrO (o : List Int) (b e : Int) : Int := carrF o.length b e 0 o
theorem carrF_sum (n : Nat) (b e : Int) : ∀ (o : List Int) (p : Int), carrF n b e p o = ((List.range o.length).map fun (i : Nat) => carr1 n b e (p + i) (ig o (i : Int))).sum
  | [], p => rfl
  | x :: o, p => by
    rw [carrF, List.length_cons, List.range_succ_eq_map, List.map_cons, List.sum_cons, List.map_map, carrF_sum n b e o (p + 1)]
    congr 1
    · rw [ig_nat]
      simp
    · refine sum_congr fun i _ => ?_
      show carr1 n b e (p + 1 + i) (ig o i) = carr1 n b e (p + ((i + 1 : Nat) : Int)) (ig (x :: o) ((i + 1 : Nat) : Int))
      rw [ig_nat, ig_nat, List.getD_cons_succ, show p + 1 + (i : Int) = p + ((i + 1 : Nat) : Int) by omega]
theorem carrO_sum (o : List Int) (b e : Int) : carrO o b e = ((List.range o.length).map fun (i : Nat) => carr1 o.length b e i (ig o (i : Int))).sum := by
  unfold carrO
  rw [carrF_sum]
  exact sum_congr fun i _ => by rw [Int.zero_add]
theorem ediv_pred {n : Nat} (h : 0 < n) {x : Int} (hx : ¬ x % (n : Int) = 0) : (x - 1) / (n : Int) = x / n := by
  have r0 := Int.emod_nonneg x (show (n : Int) ≠ 0 by omega)
  have r1 := Int.emod_lt_of_pos x (show (0 : Int) < n by omega)
  have := Int.emod_add_mul_ediv x n
  rw [show x - 1 = (x % n - 1) + x / n * n by rw [Int.mul_comm (x / n) n]; omega, Int.add_mul_ediv_right _ _ (by omega), Int.ediv_eq_zero_of_lt (by omega) (by omega)]
  omega
theorem ediv_pred0 {n : Nat} (h : 0 < n) {x : Int} (hx : x % (n : Int) = 0) : (x - 1) / (n : Int) = x / n - 1 := by
  have := Int.emod_add_mul_ediv x n
  rw [show x - 1 = (n - 1 : Int) + (x / n - 1) * n by rw [Int.sub_mul, Int.mul_comm (x / n) n]; omega, Int.add_mul_ediv_right _ _ (by omega), Int.ediv_eq_zero_of_lt (by omega) (by omega)]
  omega
theorem sub_emod_zero {n : Nat} {x y : Int} (h : (x - y) % (n : Int) = 0) : x % (n : Int) = y % n := Int.emod_eq_emod_iff_emod_sub_eq_zero.mpr h
theorem emod_sub_zero {n : Nat} {x y : Int} (h : x % (n : Int) = y % n) : (x - y) % (n : Int) = 0 := Int.emod_eq_emod_iff_emod_sub_eq_zero.mp h
def boI (b : Bool) : Int := if b then 1 else 0
/-- one more beginning -/
theorem carrO_begin {o : List Int} (h0 : 0 < o.length) (b e : Int) : carrO o b e = carrO o (b - 1) e + boI (decide (e < endAt o b)) := by
  rw [carrO_sum, carrO_sum]
  have r0 := Int.emod_nonneg b (show (o.length : Int) ≠ 0 by omega)
  have r1 := Int.emod_lt_of_pos b (show (0 : Int) < o.length by omega)
  have hm := Int.emod_add_mul_ediv b o.length
  refine sum_one (n := o.length) (j := (b % o.length).toNat) (by omega) (fun i hi hj => ?_) ?_
  · unfold carr1
    rw [show b - 1 - (i : Int) = b - i - 1 by omega, ediv_pred h0]
    intro hz
    have := sub_emod_zero hz
    rw [Int.emod_eq_of_lt (a := (i : Int)) (by omega) (by omega)] at this
    omega
  · have hj : (((b % o.length).toNat : Nat) : Int) = b % o.length := by omega
    rw [hj]
    have e1 : (b - b % o.length) / (o.length : Int) = b / o.length := by
      rw [show b - b % (o.length : Int) = b / o.length * o.length by rw [Int.mul_comm]; omega, Int.mul_ediv_cancel _ (by omega)]
    have hz : (b - b % (o.length : Int)) % (o.length : Int) = 0 := emod_sub_zero (by rw [Int.emod_emod])
    unfold carr1
    rw [show b - 1 - b % (o.length : Int) = b - b % o.length - 1 by omega, ediv_pred0 h0 hz, e1]
    generalize hx : ig o (b % o.length) = x
    have he : endAt o b = x + b / o.length * o.length := by unfold endAt; rw [hx]
    rw [he]
    have key : (e - x) / (o.length : Int) < b / o.length ↔ e < x + b / o.length * o.length := by
      rw [Int.ediv_lt_iff_lt_mul (by omega)]
      omega
    unfold boI
    by_cases hc : e < x + b / o.length * o.length
    · rw [if_pos (by simpa using hc)]
      have := key.mpr hc
      omega
    · rw [if_neg (by simpa using hc)]
      have : ¬ (e - x) / (o.length : Int) < b / o.length := fun z => hc (key.mp z)
      omega
/-- none when all have ended -/
theorem carrO_zero {o : List Int} {far b e : Int} (h : ∀ i : Nat, i < o.length → ig o (i : Int) - i ≤ far) (he : b + far ≤ e) : carrO o b e = 0 := by
  rw [carrO_sum]
  refine sum_zero fun i hi => ?_
  unfold carr1
  have := h i hi
  have : (b - i) / (o.length : Int) ≤ (e - ig o (i : Int)) / o.length := Int.ediv_le_ediv (by omega) (by omega)
  omega
/-- counted one by one -/
theorem carrO_count {o : List Int} (h0 : 0 < o.length) {far e : Int} (h : ∀ i : Nat, i < o.length → ig o (i : Int) - i ≤ far) : ∀ k : Nat, ((((List.range k).map fun i => e - far + (i : Nat)).filter fun x => decide (e < endAt o x)).length : Int) = carrO o (e - far + k - 1) e
  | 0 => by rw [carrO_zero h (by omega)]; rfl
  | k + 1 => by
    rw [List.range_succ, List.map_append, List.filter_append, List.length_append, Int.natCast_add, carrO_count h0 h k, show e - far + ((k + 1 : Nat) : Int) - 1 = e - far + k by omega, carrO_begin h0 (e - far + k)]
    congr 1
    rw [List.map_singleton, List.filter_cons]
    unfold boI
    split <;> rfl
/-! ### how far the places lie -/
def Far (B : Nat) (t : List Int) : Prop := ∀ x ∈ t, x.natAbs ≤ B
theorem Far.ig {B : Nat} {t : List Int} (h : Far B t) (i : Nat) : (DL.ig t (i : Int)).natAbs ≤ B := by
  by_cases hi : i < t.length
  · rw [ig_get hi]
    exact h _ (List.getElem_mem _)
  · rw [ig_nat, List.getD_eq_getElem?_getD, List.getElem?_eq_none (by omega)]
    exact Nat.zero_le _
theorem Far.set {B : Nat} {t : List Int} (h : Far B t) {i : Nat} {x : Int} (hx : x.natAbs ≤ B) : Far B (t.set i x) := fun y hy => by
  rcases List.mem_or_eq_of_mem_set hy with hy | rfl
  · exact h y hy
  · exact hx
theorem Far.mono {B B' : Nat} {t : List Int} (h : Far B t) (hb : B ≤ B') : Far B' t := fun x hx => Nat.le_trans (h x hx) hb
theorem shP_bound (n g : Nat) : (shP n g).natAbs ≤ n := by unfold shP; split <;> simp
theorem Far.call {B : Nat} {t : List Int} (h : Far B t) (r : List Int) (g : Nat) : Far (B + t.length) (callT r t g) := by
  unfold callT
  split
  · unfold swapT
    have hs := shP_bound t.length g
    refine ((h.mono (by omega)).set ?_).set ?_
    · have := h.ig (nxP t.length g)
      have := Int.natAbs_add_le (DL.ig t (nxP t.length g : Nat)) (shP t.length g)
      omega
    · have := h.ig g
      have := Int.natAbs_sub_le (DL.ig t (g : Int)) (shP t.length g)
      omega
  · exact h.mono (by omega)
theorem Far.run {n : Nat} (r : List Int) : ∀ (gs : List Int) {B : Nat} {t : List Int}, t.length = n → Far B t → Far (B + n * gs.length) (runT r gs t)
  | [], B, t, _, h => h
  | g :: gs, B, t, hl, h => by
    have := Far.run r gs (B := B + n) (t := callT r t g.toNat) (by rw [callT_len, hl]) (by have := h.call r g.toNat; rwa [hl] at this)
    refine this.mono ?_
    rw [List.length_cons, Nat.mul_succ]
    omega
theorem far_iota (n : Nat) : Far n (iota n) := fun x hx => by
  have := mem_iota.mp hx
  omega
theorem Far.inv {n B : Nat} {t : List Int} (O : Out n t) (h : Far B t) : Far (B + 2 * n) (invO t) := fun x hx => by
  have hl := O.len
  obtain ⟨i, hi, rfl⟩ := List.mem_iff_getElem.mp hx
  rw [← ig_get hi]
  rw [invO_len, hl] at hi
  obtain ⟨p, hp, e⟩ := O.sur i hi
  rw [← e, O.inv_at hp]
  have := h.ig p
  have := Int.emod_add_mul_ediv (DL.ig t (p : Int)) n
  rw [Int.mul_comm] at this
  obtain ⟨r0, r1⟩ := O.res hp
  omega
end DL
/-! the data layer, part 25: crossings of an outcome: plain mathematics -/
namespace DL
open PySem PySem.Spec PyProof.Rows L2
theorem sum_iota (n : Nat) (f : Int → Int) : ((iota n).map f).sum = ((List.range n).map fun (i : Nat) => f i).sum := by
  unfold iota
  rw [List.map_map]; rfl
theorem rgD_iota (n : Nat) : rgD 0 (n : Int) = (iota n).map D.int := by
  rw [rgD_nat]; rfl
end DL
/-! the data layer, part 26: sorted(set(l)), l a list of ints -/
namespace DL
open PySem PySem.Spec PyProof.Rows L2
/-! ### sorted(set(l)) -/
def rSetL (K : Fg) (w : World) : List V → Hp → VK → Prop := fun vs H Q => ∃ (l : Addr) (ns : List Int), vs = [.ref l] ∧ SqL K H l (ns.map V.int) ∧ ns.length + 1 < scanBound ∧ ∀ a c, c ≤ ns.length → H a = none → Q (.ref a) (upd H a (SetO w a (fun j => decide (j ∈ ns)) c))
section
variable {X : Cx} {C : Ctx}
def mSS (ma : DTE) : DTE := fun Γ Q => ma Γ fun r Γ1 => ∃ ds ns, rd Γ1 r = some (.lst ds) ∧ ints? ds = some ns ∧ ns.length < 64 ∧ ∀ ms : List Int, ms.Pairwise (· < ·) → (∀ k, k ∈ ms ↔ k ∈ ns) → Q (.fr (.lst (ms.map D.int))) Γ1
end
section
variable {ma : DTE} {Γ : Env} {Q : QE} {r : Res}
def ssk (r : Res) (Γ1 : Env) (Q : QE) : Prop := ∃ ds ns, rd Γ1 r = some (.lst ds) ∧ ints? ds = some ns ∧ ns.length < 64 ∧ ∀ ms : List Int, ms.Pairwise (· < ·) → (∀ k, k ∈ ms ↔ k ∈ ns) → Q (.fr (.lst (ms.map D.int))) Γ1
theorem w_SS (h : ma Γ fun r Γ1 => ssk r Γ1 Q) : mSS ma Γ Q := h
theorem w_ss {l : List Int} (h1 : rd Γ r = some (.lst (l.map D.int))) (h2 : l.length < 64) (h : ∀ ms : List Int, ms.Pairwise (· < ·) → (∀ k, k ∈ ms ↔ k ∈ l) → Q (.fr (.lst (ms.map D.int))) Γ) : ssk r Γ Q := ⟨_, l, h1, ints?_map l, h2, h⟩
end
end DL
/-! the data layer, part 27: the members of a list in rising order: plain mathematics -/
namespace DL
open PySem PySem.Spec PyProof.Rows L2
end DL
/-! the data layer, part 28: a new list is changed and dropped -/
namespace DL
open PySem PySem.Spec PyProof.Rows L2
/-- o.m(n) of a new list that nobody keeps -/
def mMutF (f : D → List D → (D → Res → Prop) → Prop) (mo : DTE) (as : List D) : DTE := fun Γ Q => mo Γ fun ro Γ1 => ∃ ds, ro = .fr (.lst ds) ∧ f (.lst ds) as fun _ z => Q z Γ1
section
variable {mo : DTE} {Γ : Env} {Q : QE} {r : Res}
def mfk (f : D → List D → (D → Res → Prop) → Prop) (as : List D) (r : Res) (Γ1 : Env) (Q : QE) : Prop := ∃ ds, r = .fr (.lst ds) ∧ f (.lst ds) as fun _ z => Q z Γ1
theorem e_MutF {f : D → List D → (D → Res → Prop) → Prop} {as : List D} (h : mo Γ fun r Γ1 => mfk f as r Γ1 Q) : mMutF f mo as Γ Q := h
theorem e_mutF {f : D → List D → (D → Res → Prop) → Prop} {as ds : List D} (h : f (.lst ds) as fun _ z => Q z Γ) : mfk f as (.fr (.lst ds)) Γ Q := ⟨ds, rfl, h⟩
end
end DL
/-! the data layer, part 29: block rings: plain mathematics -/
namespace DL
open PySem PySem.Spec PyProof.Rows L2
/-- the ranks of a ring with c strong places, the last of them at x -/
def blk (n : Nat) (c x : Int) : List Int := (iota n).map fun p => if (x - p) % (n : Int) < c then 1 else 0
end DL
/-! the data layer, part 30: data in data: nice, equal -/
namespace DL
open PySem PySem.Spec PyProof.Rows L2
/-- nice, at most k deep, of weight at most w -/
structure Ni (k w : Nat) (d : D) : Prop where
  nice : niceD 256 d = true
  deep : (toPy d).depth ≤ k
  wt : wtD 256 d ≤ w
structure Nis (k w : Nat) (ds : List D) : Prop where
  nice : nicesD 256 ds = true
  deep : PyData.depthAll (toPys ds) ≤ k
  wt : wtsD 256 ds ≤ w
theorem Ni.done {k w : Nat} {d : D} (h : Ni k w d) (hk : k ≤ 20) (hw : w ≤ 900000) : NiceD d := ⟨h.nice, Nat.le_trans h.deep hk, Nat.le_trans h.wt hw⟩
theorem Nis.nil : Nis 0 0 [] := ⟨rfl, by rw [toPys, PyData.depthAll]; exact Nat.le_refl _, by rw [wtsD]; exact Nat.le_refl _⟩
theorem Nis.cons {k w k2 w2 : Nat} {d : D} {ds : List D} (h : Ni k w d) (t : Nis k2 w2 ds) : Nis (max k k2) (w + 2 + w2) (d :: ds) := by
  refine ⟨by rw [nicesD, h.nice, t.nice]; rfl, ?_, ?_⟩
  · rw [toPys, PyData.depthAll]
    have := h.deep
    have := t.deep
    omega
  · rw [wtsD]
    have := h.wt
    have := t.wt
    omega
theorem Ni.lst {k w : Nat} {ds : List D} (h : Nis k w ds) : Ni (k + 1) (w + 4) (.lst ds) := by
  refine ⟨by rw [niceD]; exact h.nice, ?_, ?_⟩
  · rw [toPy, PyData.depth]
    have := h.deep
    omega
  · rw [wtD]
    have := h.wt
    omega
theorem Ni.tup {k w : Nat} {ds : List D} (h : Nis k w ds) : Ni (k + 1) (w + 4) (.tup ds) := by
  refine ⟨by rw [niceD]; exact h.nice, ?_, ?_⟩
  · rw [toPy, PyData.depth]
    have := h.deep
    omega
  · rw [wtD]
    have := h.wt
    omega
theorem Ni.int {i : Int} (h : i.natAbs < 2 ^ 256) : Ni 0 257 (.int i) := ⟨decide_eq_true h, by simp [toPy, PyData.depth], by simp [wtD]⟩
theorem Ni.bl {b : Bool} : Ni 0 5 (.bl b) := ⟨rfl, by simp [toPy, PyData.depth], by simp [wtD]⟩
theorem Ni.non : Ni 0 5 .non := ⟨rfl, by decide, by decide⟩
theorem Nis.ints {l : List Int} (h : ∀ x ∈ l, x.natAbs < 2 ^ 256) {m : Nat} (hl : l.length ≤ m) : Nis 0 (m * 259) (l.map D.int) := by
  refine ⟨nices_ints h, by rw [toPys_ints, depth_ints]; exact Nat.le_refl _, ?_⟩
  rw [wts_ints]
  exact Nat.mul_le_mul_right _ hl
theorem Ni.ints {l : List Int} (h : ∀ x ∈ l, x.natAbs < 2 ^ 256) {m : Nat} (hl : l.length ≤ m) : Ni 1 (m * 259 + 4) (.lst (l.map D.int)) := Ni.lst (Nis.ints h hl)
theorem Ni.tints {l : List Int} (h : ∀ x ∈ l, x.natAbs < 2 ^ 256) {m : Nat} (hl : l.length ≤ m) : Ni 1 (m * 259 + 4) (.tup (l.map D.int)) := Ni.tup (Nis.ints h hl)
/-- many nice data -/
theorem Nis.all {k w : Nat} : ∀ {ds : List D}, (∀ d ∈ ds, Ni k w d) → Nis k (ds.length * (w + 2)) ds
  | [], _ => ⟨rfl, by rw [toPys, PyData.depthAll]; exact Nat.zero_le _, by rw [wtsD]; exact Nat.zero_le _⟩
  | d :: ds, h => by
    have t := Nis.all (ds := ds) fun e he => h e (List.mem_cons_of_mem _ he)
    have c := Nis.cons (h d (List.mem_cons_self ..)) t
    refine ⟨c.nice, by have := c.deep; omega, ?_⟩
    have := c.wt
    rw [List.length_cons, Nat.succ_mul]
    omega
end DL
/-! the data layer, part 31: repr and len of own objects, {list} in an f-string -/
namespace DL
open PySem PySem.Spec PyProof.Rows L2
end DL
/-! the data layer, part 32: repr and len of own objects, f-strings: over data -/
namespace DL
open PySem PySem.Spec PyProof.Rows L2
def rpk (Γ2 : Env) (Q : QE) : Bool → D → List D → Prop := fun b d ds' => ∃ Γ3, putsD [] ds' Γ2 = some Γ3 ∧ (Γ3 = Γ2 ∧ ∃ z, (if b = true then frOf d else .val d) = .val (.str z) ∧ Q (.val (.str z)) Γ2)
theorem rpk_in {Γ2 : Env} {Q : QE} {z : Str} (h : Q (.val (.str z)) Γ2) : rpk Γ2 Q false (.str z) [] := ⟨Γ2, rfl, rfl, z, rfl, h⟩
def lnk (Γ2 : Env) (Q : QE) : Bool → D → List D → Prop := fun b d ds' => ∃ Γ3, putsD [] ds' Γ2 = some Γ3 ∧ (Γ3 = Γ2 ∧ ∃ z : Int, (if b = true then frOf d else .val d) = .val (.int z) ∧ 0 ≤ z ∧ z < 2 ^ 63 ∧ Q (.val (.int z)) Γ2)
theorem lnk_in {Γ2 : Env} {Q : QE} {z : Int} (h0 : 0 ≤ z) (h1 : z < 2 ^ 63) (h : Q (.val (.int z)) Γ2) : lnk Γ2 Q false (.int z) [] := ⟨Γ2, rfl, rfl, z, rfl, h0, h1, h⟩
def mReprO (C : Addr) (sd : DSp) (ma : DTE) : DTE := fun Γ Q => ma Γ fun ra Γ1 => ∃ ns ds, dat ra = some (.obj C ns ds) ∧ sd [.obj C ns ds] (rpk Γ1 Q) noX
def mLenO (C : Addr) (sd : DSp) (ma : DTE) : DTE := fun Γ Q => ma Γ fun ra Γ1 => ∃ ns ds, dat ra = some (.obj C ns ds) ∧ sd [.obj C ns ds] (lnk Γ1 Q) noX
/-! ### f-strings -/
section
variable {X : Cx} {C : Ctx}
def fmtD : D → Option Str
  | .str y => if y.length ≤ 1000000 then some y else none
  | .int i => if i.natAbs.log2 < 1920 then some (toString i) else none
  | .lst ds => if okR (.lst ds) = true then some (toPy (.lst ds)).shown else none
  | .tup ds => if okR (.tup ds) = true then some (toPy (.tup ds)).shown else none
  | _ => none
def mFmt (ma : DTE) : DTE := fun Γ Q => ma Γ fun r Γ1 => ∃ d y, rd Γ1 r = some d ∧ fmtD d = some y ∧ Q (.val (.str y)) Γ1
/-- the parts, one behind the other -/
def mJs : List DTE → Str → Env → (Str → Env → Prop) → Prop
  | [], acc, Γ, Q => Q acc Γ
  | m :: ms, acc, Γ, Q => m Γ fun r Γ1 => ∃ y, r = .val (.str y) ∧ (acc ++ y).length ≤ 1000000 ∧ mJs ms (acc ++ y) Γ1 Q
def mJoined (ms : List DTE) : DTE := fun Γ Q => mJs ms Str.empty Γ fun y Γ1 => Q (.val (.str y)) Γ1
end
/-! ### rules and steps -/
section
variable {C0 : Addr} {sd : DSp} {m ma : DTE} {ms : List DTE} {Γ : Env} {Q : QE} {r : Res} {d : D} {acc : Str}
def rok (C0 : Addr) (sd : DSp) (r : Res) (Γ1 : Env) (Q : QE) : Prop := ∃ ns ds, dat r = some (.obj C0 ns ds) ∧ sd [.obj C0 ns ds] (rpk Γ1 Q) noX
theorem e_ReprO (h : ma Γ fun r Γ1 => rok C0 sd r Γ1 Q) : mReprO C0 sd ma Γ Q := h
theorem e_reprO {ns : List Str} {ds : List D} (h1 : dat r = some (.obj C0 ns ds)) (h : sd [.obj C0 ns ds] (rpk Γ Q) noX) : rok C0 sd r Γ Q := ⟨ns, ds, h1, h⟩
def lok (C0 : Addr) (sd : DSp) (r : Res) (Γ1 : Env) (Q : QE) : Prop := ∃ ns ds, dat r = some (.obj C0 ns ds) ∧ sd [.obj C0 ns ds] (lnk Γ1 Q) noX
theorem e_LenO (h : ma Γ fun r Γ1 => lok C0 sd r Γ1 Q) : mLenO C0 sd ma Γ Q := h
theorem e_lenO {ns : List Str} {ds : List D} (h1 : dat r = some (.obj C0 ns ds)) (h : sd [.obj C0 ns ds] (lnk Γ Q) noX) : lok C0 sd r Γ Q := ⟨ns, ds, h1, h⟩
def fmk (r : Res) (Γ1 : Env) (Q : QE) : Prop := ∃ d y, rd Γ1 r = some d ∧ fmtD d = some y ∧ Q (.val (.str y)) Γ1
theorem e_Fmt (h : ma Γ fun r Γ1 => fmk r Γ1 Q) : mFmt ma Γ Q := h
theorem e_fmtL {ds : List D} (h1 : rd Γ r = some (.lst ds)) (h2 : okR (.lst ds) = true) (h : Q (.val (.str (toPy (.lst ds)).shown)) Γ) : fmk r Γ Q := ⟨_, _, h1, if_pos h2, h⟩
theorem e_Joined (h : mJs ms Str.empty Γ fun y Γ1 => Q (.val (.str y)) Γ1) : mJoined ms Γ Q := h
theorem e_jsN {Qs : Str → Env → Prop} (h : Qs acc Γ) : mJs [] acc Γ Qs := h
def jsk (ms : List DTE) (acc : Str) (r : Res) (Γ1 : Env) (Qs : Str → Env → Prop) : Prop := ∃ y, r = .val (.str y) ∧ (acc ++ y).length ≤ 1000000 ∧ mJs ms (acc ++ y) Γ1 Qs
theorem e_Js {Qs : Str → Env → Prop} (h : m Γ fun r Γ1 => jsk ms acc r Γ1 Qs) : mJs (m :: ms) acc Γ Qs := h
theorem e_js {Qs : Str → Env → Prop} {y : Str} (h1 : (acc ++ y).length ≤ 1000000) (h : mJs ms (acc ++ y) Γ Qs) : jsk ms acc (.val (.str y)) Γ Qs := ⟨y, rfl, h1, h⟩
end
end DL
/-! the data layer, part 33: places are looked at as shared data while one expression that answers a plain value is read -/
namespace DL
open PySem PySem.Spec PyProof.Rows L2
def shS : Sl → Sl
  | .no => .no
  | .sh d => .sh d
  | .ow d => .sh d
  | .io d => .sh d
  | .bo d => .sh d
def allSh (Γ : Env) : Env := Γ.map shS
def scal : D → Bool
  | .non => true
  | .bl _ => true
  | .int _ => true
  | .str _ => true
  | _ => false
theorem scal_rep {K : Fg} {H H' : Hp} {v : V} {d : D} (h : scal d = true) (r : Rep K H v d) : Rep K H' v d := by
  cases r <;> first | exact .non | exact .bl _ | exact .int _ | exact .str _ | exact nomatch h
abbrev bctx (C : Ctx) (H : Hp) : Ctx := ⟨C.K, H, [], [], [], [], []⟩
def mBor (me : DTE) : DTE := fun Γ Q => me (allSh Γ) fun r _ => ∃ d, r = .val d ∧ scal d = true ∧ Q (.val d) Γ
section
variable {C : Ctx} {Γ : Env} {O : List Addr} {σ : L2.St} {H H' : Hp}
theorem hide_nil {H : Hp} : hide [] H = H := funext fun a => hide_out (by simp)
theorem see_own {l : Addr} {o : HO} {d : D} (h : H l = some o) (ho : OwnOk C.K (hide O H) o d) : Rep C.K (hide [] H) (.ref l) d := by
  rw [hide_nil]
  exact (ho.mono hide_same).rep h
theorem see_slot (R : RelO C Γ O σ H) {i : Nat} {s : Sl} (e : Γ[i]? = some s) : SlOk (bctx C H) [] σ H i (shS s) := by
  have q := R.sl i s e
  have m : Same (hide O H) (hide [] H) := by rw [hide_nil]; exact hide_same
  cases s with
  | no => trivial
  | sh d => obtain ⟨v, h1, h2⟩ := q; exact ⟨v, h1, h2.mono m⟩
  | ow d => obtain ⟨l, o, h1, _, _, h4, h5⟩ := q; exact ⟨_, h1, see_own h4 h5⟩
  | io d => obtain ⟨l, o, h1, _, _, h4, h5⟩ := q; exact ⟨_, h1, see_own h4 h5⟩
  | bo d =>
    obtain ⟨v, h1, _, h3⟩ := q
    rcases h3 with h3 | ⟨l, o, rfl, h4, h5, h6⟩
    · exact ⟨v, h1, h3.mono m⟩
    · exact ⟨_, h1, see_own (R.fr l o h4 h5) h6⟩
/-- the heap has grown -/
theorem RelO.grow (R : RelO C Γ O σ H) (e : ∀ a o, H a = some o → H' a = some o) : RelO C Γ O σ H' ∧ Same (hide O H) (hide O H') := by
  have s : Same (hide O H) (hide O H') := fun b u h => by
    obtain ⟨n, h⟩ := hide_some h
    rw [hide_out n]; exact e b u h
  refine ⟨⟨fun i t h => (R.sl i t h).mono s fun l o _ h => e l o h, R.ds, fun a o h n => e a o (R.fr a o h n), R.mm, R.bb, R.oo, fun a ha z => ?_, R.ol, R.o0, fun p hp => (R.tt p hp).mono s, fun q hq => ⟨e _ _ (R.uu q hq).1, (R.uu q hq).2⟩, R.len⟩, s⟩
  cases h : H a with
  | none => exact R.al a ha h
  | some o => rw [e a o h] at z; cases z
end
section
variable {Γ Γ' : Env} {Q : QE} {me : DTE}
def bok (Γ : Env) (Q : QE) (r : Res) : Prop := ∃ d, r = .val d ∧ scal d = true ∧ Q (.val d) Γ
theorem e_Bor (h1 : allSh Γ = Γ') (h : me Γ' fun r _ => bok Γ Q r) : mBor me Γ Q := by subst h1; exact h
theorem e_bor {d : D} (h1 : scal d = true) (h : Q (.val d) Γ) : bok Γ Q (.val d) := ⟨d, rfl, h1, h⟩
end
theorem i_addS {x y : Str} {Q : Res → Prop} (h1 : x.length + y.length ≤ 100000) (h : Q (.val (.str (x ++ y)))) : addD (.str x) (.str y) Q := ⟨h1, h⟩
theorem Ni.str {x : Str} {m : Nat} (h : PyData.strOk x = true) (hl : x.length ≤ m) : Ni 0 (10 * m + 5) (.str x) := ⟨by rw [niceD]; exact h, by simp [toPy, PyData.depth], by rw [wtD]; omega⟩
end DL
/-! the data layer, part 34: reversed, zip; new lists that are kept in a list, looked at, and spoiled in the end -/
namespace DL
open PySem PySem.Spec PyProof.Rows L2 RT
/-! ### reversed(e), e a list or a tuple -/
def mRev (ma : DTE) : DTI := fun Γ Q => ma Γ fun r Γ1 => ∃ d ds, rd Γ1 r = some d ∧ itemsOf d = some ds ∧ Q (srcOf d r) ds.reverse Γ1
/-! ### zip of two shared lists -/
def zipD (ds es : List D) : List D := List.zipWith (fun a b => D.tup [a, b]) ds es
def mZip (ma mb : DTE) : DTI := fun Γ Q => ma Γ fun r Γ1 => mb Γ1 fun r2 Γ2 => ∃ ds es, dat r = some (.lst ds) ∧ dat r2 = some (.lst es) ∧ Q (.v2 (.lst ds) (.lst es)) (zipD ds es) Γ2
/-! ### a box: what stands before stays, what is new is thrown away -/
def boxS : Sl → Sl
  | .no => .no
  | .sh d => .bo d
  | .ow d => .bo d
  | .io d => .bo d
  | .bo d => .bo d
/-- slots with true are used anew in the box -/
def boxE : List Bool → Env → Env
  | true :: bs, _ :: Γ => .no :: boxE bs Γ
  | false :: bs, s :: Γ => boxS s :: boxE bs Γ
  | _, _ => []
def killE : List Bool → Env → Env
  | true :: bs, _ :: Γ => .no :: killE bs Γ
  | false :: bs, s :: Γ => s :: killE bs Γ
  | _, _ => []
def freeE : List Bool → Env → Bool
  | [], [] => true
  | true :: bs, s :: Γ => freeB [s] 0 && freeE bs Γ
  | false :: bs, _ :: Γ => freeE bs Γ
  | _, _ => false
theorem freeE_len : ∀ {bs : List Bool} {Γ : Env}, freeE bs Γ = true → bs.length = Γ.length
  | [], [], _ => rfl
  | [], _ :: _, h => by cases h
  | true :: bs, [], h => by cases h
  | false :: bs, [], h => by cases h
  | true :: bs, s :: Γ, h => by
    unfold freeE at h
    rw [Bool.and_eq_true] at h
    rw [List.length_cons, List.length_cons, freeE_len h.2]
  | false :: bs, s :: Γ, h => by
    unfold freeE at h
    rw [List.length_cons, List.length_cons, freeE_len h]
theorem boxE_at : ∀ {bs : List Bool} {Γ : Env} {i : Nat}, freeE bs Γ = true → i < Γ.length → (bs[i]? = some true ∧ (boxE bs Γ)[i]? = some .no ∧ (killE bs Γ)[i]? = some .no ∧ Free Γ i) ∨ (bs[i]? = some false ∧ ∃ s, Γ[i]? = some s ∧ (boxE bs Γ)[i]? = some (boxS s) ∧ (killE bs Γ)[i]? = some s)
  | [], [], _, _, h => absurd h (Nat.not_lt_zero _)
  | [], _ :: _, _, h, _ => by cases h
  | true :: bs, [], _, h, _ => by cases h
  | false :: bs, [], _, h, _ => by cases h
  | true :: bs, s :: Γ, 0, h, _ => by
    unfold freeE at h
    rw [Bool.and_eq_true] at h
    refine .inl ⟨rfl, rfl, rfl, ?_⟩
    have f := freeB_of h.1
    exact ⟨fun d e => f.1 d (by cases e; rfl), fun d e => f.2 d (by cases e; rfl)⟩
  | false :: bs, s :: Γ, 0, h, _ => .inr ⟨rfl, s, rfl, rfl, rfl⟩
  | true :: bs, s :: Γ, i + 1, h, hi => by
    unfold freeE at h
    rw [Bool.and_eq_true] at h
    exact boxE_at (bs := bs) (Γ := Γ) (i := i) h.2 (by simpa using hi)
  | false :: bs, s :: Γ, i + 1, h, hi => by
    unfold freeE at h
    exact boxE_at (bs := bs) (Γ := Γ) (i := i) h (by simpa using hi)
theorem boxE_len : ∀ {bs : List Bool} {Γ : Env}, freeE bs Γ = true → (boxE bs Γ).length = Γ.length ∧ (killE bs Γ).length = Γ.length
  | [], [], _ => ⟨rfl, rfl⟩
  | [], _ :: _, h => by cases h
  | true :: bs, [], h => by cases h
  | false :: bs, [], h => by cases h
  | true :: bs, s :: Γ, h => by
    unfold freeE at h
    rw [Bool.and_eq_true] at h
    obtain ⟨h1, h2⟩ := boxE_len h.2
    exact ⟨by rw [boxE, List.length_cons, List.length_cons, h1], by rw [killE, List.length_cons, List.length_cons, h2]⟩
  | false :: bs, s :: Γ, h => by
    unfold freeE at h
    obtain ⟨h1, h2⟩ := boxE_len h
    exact ⟨by rw [boxE, List.length_cons, List.length_cons, h1], by rw [killE, List.length_cons, List.length_cons, h2]⟩
def bof1 (G : Env) (σ : L2.St) (i : Nat) : Option (Nat × V) := match G[i]?, σ[i]? with
  | some (.bo _), some (some v) => some (i, v)
  | _, _ => none
def bof (G : Env) (σ : L2.St) : List (Nat × V) := (List.range σ.length).filterMap (bof1 G σ)
theorem mem_bof {G : Env} {σ : L2.St} {i : Nat} {v : V} : (i, v) ∈ bof G σ ↔ (∃ d, G[i]? = some (.bo d)) ∧ σ[i]? = some (some v) := by
  unfold bof
  rw [List.mem_filterMap]
  constructor
  · rintro ⟨j, _, h⟩
    unfold bof1 at h
    split at h
    · rename_i d v' h1 h2
      cases h
      exact ⟨⟨d, h1⟩, h2⟩
    · cases h
  · rintro ⟨⟨d, h1⟩, h2⟩
    refine ⟨i, List.mem_range.mpr (List.getElem?_eq_some_iff.mp h2).1, ?_⟩
    unfold bof1
    rw [h1, h2]
abbrev xctx (C : Ctx) (H : Hp) (B : List (Nat × V)) : Ctx := ⟨C.K, H, [], [], B, [], []⟩
/-- a name that stays in the box -/
def mKept (i : Nat) : DTE := fun Γ Q => match Γ[i]? with
  | some (.bo d) => Q (.val d) Γ
  | some (.sh d) => Q (.val d) Γ
  | some (.ow _) => Q (.pl i) Γ
  | _ => False
theorem sim_kept {C : Ctx} (hO : C.O0 = []) (hM : C.M = []) (i : Nat) : SimE C (tVar i) (mKept i) := fun Γ O σ H Qd Q R h k => by
  unfold mKept at h
  cases e : Γ[i]? with
  | none => rw [e] at h; exact h.elim
  | some s =>
    rw [e] at h
    have q := R.sl i s e
    cases s with
    | no => exact h.elim
    | sh d =>
      obtain ⟨v, h1, h2⟩ := q
      exact ⟨v, h1, k (.val d) _ _ _ ⟨R, h2⟩ (.val (L2.Same.refl _)) h⟩
    | ow d =>
      obtain ⟨l, o, h1, _⟩ := q
      exact ⟨_, h1, k (.pl i) _ _ _ ⟨R, h1⟩ (.pl (L2.Same.refl _)) h⟩
    | io d => exact h.elim
    | bo d =>
      obtain ⟨v, h1, _, h3⟩ := q
      refine ⟨v, h1, k (.val d) _ _ _ ⟨R, ?_⟩ (.val (L2.Same.refl _)) h⟩
      rcases h3 with h3 | ⟨l, o, rfl, h4, h5, h6⟩
      · exact h3
      · refine h6.rep ?_
        rw [hide_out fun z => ?_]
        · exact R.fr l o h4 (by rw [hM]; intro p hp; cases hp)
        · rcases R.ol l z with y | y
          · rw [hO] at y; cases y
          · rw [y] at h4; cases h4
theorem de_kept {X : Cx} {C : Ctx} {pos : Pos} (i : Nat) {x : Str} (h : PE X (.Name x pos) (tVar i)) (hO : C.O0 = [] := by rfl) (hM : C.M = [] := by rfl) : DE X C (.Name x pos) (tVar i) (mKept i) := ⟨h, sim_kept hO hM i⟩
section
variable {C : Ctx} {Γ Γ' : Env} {O : List Addr} {σ σ' : L2.St} {H H' : Hp}
/-- some slots are used anew -/
theorem RelO.reslot (R : RelO C Γ O σ H) (hl : Γ'.length = σ'.length) (h : ∀ (i : Nat) (s : Sl), Γ'[i]? = some s → s = Sl.no ∨ (Γ[i]? = some s ∧ σ'[i]? = σ[i]?)) (hf : ∀ (i : Nat) (s : Sl), Γ[i]? = some s → (∃ d, s = Sl.io d ∨ s = Sl.bo d) → Γ'[i]? = some s) : RelO C Γ' O σ' H := by
  have mt : ∀ i a, MutAt Γ' σ' i a → MutAt Γ σ i a := fun i a ⟨⟨d, h1⟩, h2⟩ => by
    rcases h1 with h1 | h1
    · rcases h i _ h1 with z | ⟨z, y⟩
      · cases z
      · exact ⟨⟨d, .inl z⟩, by rw [← y]; exact h2⟩
    · rcases h i _ h1 with z | ⟨z, y⟩
      · cases z
      · exact ⟨⟨d, .inr z⟩, by rw [← y]; exact h2⟩
  refine ⟨fun i s e => ?_, fun i j a n h1 h2 => R.ds i j a n (mt _ _ h1) (mt _ _ h2), R.fr, fun p hp => ?_, fun p hp => ?_, R.oo, R.al, R.ol, R.o0, R.tt, fun q hq => ⟨(R.uu q hq).1, (R.uu q hq).2.1, fun i hi => (R.uu q hq).2.2 i (mt _ _ hi)⟩, hl⟩
  · rcases h i s e with rfl | ⟨z, y⟩
    · trivial
    · have q := R.sl i s z
      cases s with
      | no => trivial
      | sh d => unfold SlOk at q ⊢; rw [y]; exact q
      | ow d => unfold SlOk at q ⊢; rw [y]; exact q
      | io d => unfold SlOk at q ⊢; rw [y]; exact q
      | bo d => unfold SlOk at q ⊢; rw [y]; exact q
  · obtain ⟨h1, d, h2⟩ := R.mm p hp
    have g := hf _ _ h2 ⟨d, .inl rfl⟩
    rcases h _ _ g with z | ⟨_, y⟩
    · cases z
    · exact ⟨by rw [y]; exact h1, d, g⟩
  · obtain ⟨h1, d, h2⟩ := R.bb p hp
    have g := hf _ _ h2 ⟨d, .inr rfl⟩
    rcases h _ _ g with z | ⟨_, y⟩
    · cases z
    · exact ⟨by rw [y]; exact h1, d, g⟩
end
/-! ### new lists in a list, looked at, then changed -/
def frsD : List Res → Option (List D)
  | [] => some []
  | .fr d :: rs => match frsD rs with
    | some ds => some (d :: ds)
    | none => none
  | _ => none
def lstsOk : List D → Prop
  | [] => True
  | d :: ds => (∃ xs, d = .lst xs ∧ xs.length < 100000) ∧ lstsOk ds
def mScr (f x : Nat) (mask : List Bool) (mp : DTP) (mm : DTS) : DTS := fun D Γ => mp Γ fun rs Γ1 => ∃ ds, frsD rs = some ds ∧ lstsOk ds ∧ ds.length ≤ 1000 ∧ freeE mask Γ1 = true ∧ mask[f]? = some true ∧ mask[x]? = some true ∧ f ≠ x ∧
  mm ⟨fun Γ3 => Γ3.length = Γ1.length ∧ D.nx (killE mask Γ1), fun r Γ3 => Γ3.length = Γ1.length ∧ ∃ d, r = .val d ∧ scal d = true ∧ D.rt (.val d) (killE mask Γ1), fun _ => False, fun _ => False⟩ ((boxE mask Γ1).set f (.bo (.lst ds)))
section
variable {C : Ctx}
/-- statements with a last one behind them that is not read in their surrounding -/
structure DSK (X : Cx) (C : Ctx) (body : List Stmt) (tl tm : TS) (mm : DTS) : Prop where
  pss : PSs X body (tSeq tm tl)
  sim : SimS C tm mm
end
section
variable {Γ Γ' : Env} {nx bk ct : Env → Prop} {rt : Res → Env → Prop} {Q : QE} {d : D} {mp : DTP} {mm : DTS} {i f x : Nat} {mask : List Bool} {rs : List Res} {ds : List D}
theorem e_kb (h1 : Γ[i]? = some (.bo d)) (h : Q (.val d) Γ) : mKept i Γ Q := by unfold mKept; rw [h1]; exact h
theorem e_ks (h1 : Γ[i]? = some (.sh d)) (h : Q (.val d) Γ) : mKept i Γ Q := by unfold mKept; rw [h1]; exact h
theorem e_ko (h1 : Γ[i]? = some (.ow d)) (h : Q (.pl i) Γ) : mKept i Γ Q := by unfold mKept; rw [h1]; exact h
def sck2 (f x : Nat) (mask : List Bool) (mm : DTS) (nx : Env → Prop) (rt : Res → Env → Prop) (rs : List Res) (Γ1 : Env) : Prop := ∃ ds, frsD rs = some ds ∧ lstsOk ds ∧ ds.length ≤ 1000 ∧ freeE mask Γ1 = true ∧ mask[f]? = some true ∧ mask[x]? = some true ∧ f ≠ x ∧
  mm ⟨fun Γ3 => Γ3.length = Γ1.length ∧ nx (killE mask Γ1), fun r Γ3 => Γ3.length = Γ1.length ∧ ∃ d, r = .val d ∧ scal d = true ∧ rt (.val d) (killE mask Γ1), fun _ => False, fun _ => False⟩ ((boxE mask Γ1).set f (.bo (.lst ds)))
def bxn (Γ : Env) (p : Prop) : Env → Prop := fun Γ3 => Γ3.length = Γ.length ∧ p
def bxr (Γ : Env) (rt : Res → Env → Prop) (Γk : Env) : Res → Env → Prop := fun r Γ3 => Γ3.length = Γ.length ∧ ∃ d, r = .val d ∧ scal d = true ∧ rt (.val d) Γk
theorem b_nx {p : Prop} (h1 : Γ'.length = Γ.length) (h : p) : bxn Γ p Γ' := ⟨h1, h⟩
theorem b_rt {Γk : Env} (h1 : Γ'.length = Γ.length) (h2 : scal d = true) (h : rt (.val d) Γk) : bxr Γ rt Γk (.val d) Γ' := ⟨h1, d, rfl, h2, h⟩
theorem s_Scr (h : mp Γ fun rs Γ1 => sck2 f x mask mm nx rt rs Γ1) : mScr f x mask mp mm (.mk nx rt bk ct) Γ := h
theorem s_scr {Γk : Env} (h1 : frsD rs = some ds) (h2 : ds.length ≤ 1000) (h3 : freeE mask Γ = true) (h4 : mask[f]? = some true ∧ mask[x]? = some true ∧ f ≠ x) (h5 : killE mask Γ = Γk) (h6 : (boxE mask Γ).set f (.bo (.lst ds)) = Γ') (h0 : lstsOk ds)
    (h : mm (.mk (bxn Γ (nx Γk)) (bxr Γ rt Γk) (fun _ => False) (fun _ => False)) Γ') : sck2 f x mask mm nx rt rs Γ := by
  subst h5; subst h6
  exact ⟨ds, h1, h0, h2, h3, h4.1, h4.2.1, h4.2.2, h⟩
def rwk (r : Res) (Γ : Env) (Q : Src → List D → Env → Prop) : Prop := ∃ d ds, rd Γ r = some d ∧ itemsOf d = some ds ∧ Q (srcOf d r) ds.reverse Γ
theorem w_Rev {ma : DTE} {Q : Src → List D → Env → Prop} (h : ma Γ fun r Γ1 => rwk r Γ1 Q) : mRev ma Γ Q := h
theorem w_rvd {r : Res} {Q : Src → List D → Env → Prop} (h1 : rd Γ r = some d) (h2 : itemsOf d = some ds) (h : Q (srcOf d r) ds.reverse Γ) : rwk r Γ Q := ⟨_, _, h1, h2, h⟩
def zpk (r r2 : Res) (Γ : Env) (Q : Src → List D → Env → Prop) : Prop := ∃ ds es, dat r = some (.lst ds) ∧ dat r2 = some (.lst es) ∧ Q (.v2 (.lst ds) (.lst es)) (zipD ds es) Γ
theorem w_Zip {ma mb : DTE} {Q : Src → List D → Env → Prop} (h : ma Γ fun r Γ1 => mb Γ1 fun r2 Γ2 => zpk r r2 Γ2 Q) : mZip ma mb Γ Q := h
theorem w_zip {r r2 : Res} {es : List D} {Q : Src → List D → Env → Prop} (h1 : dat r = some (.lst ds)) (h2 : dat r2 = some (.lst es)) (h : Q (.v2 (.lst ds) (.lst es)) (zipD ds es) Γ) : zpk r r2 Γ Q := ⟨_, _, h1, h2, h⟩
end
end DL
/-! the data layer, part 35: passes of an outcome counted by pairs: plain mathematics -/
namespace DL
open PySem PySem.Spec PyProof.Rows L2
/-- how often two persons pass -/
def Fo (n : Nat) (o : List Int) (i j : Nat) : Nat := if i < j then ((ig o (j : Int) - ig o (i : Int)) / (n : Int)).natAbs else if j < i then ((ig o (i : Int) - ig o (j : Int)) / (n : Int)).natAbs else 0
def sumN (n : Nat) (f : Nat → Nat) : Nat := ((List.range n).map f).sum
def S2 (n : Nat) (o : List Int) : Nat := sumN n fun i => sumN n fun j => Fo n o i j
/-- the passes, as pass_count adds them -/
def pcN (n : Nat) (o : List Int) : Nat := sumN n fun j => sumN j fun i => ((ig o (j : Int) - ig o (i : Int)) / (n : Int)).natAbs
theorem sumN_succ (n : Nat) (f : Nat → Nat) : sumN (n + 1) f = sumN n f + f n := by
  unfold sumN
  rw [List.range_succ, List.map_append, List.sum_append, List.map_singleton, List.sum_singleton]
theorem sumN_congr {n : Nat} {f g : Nat → Nat} (h : ∀ i, i < n → f i = g i) : sumN n f = sumN n g := by
  unfold sumN
  congr 1
  exact List.map_congr_left fun i hi => h i (List.mem_range.mp hi)
theorem sumN_add (f g : Nat → Nat) : ∀ n : Nat, sumN n (fun i => f i + g i) = sumN n f + sumN n g
  | 0 => rfl
  | n + 1 => by rw [sumN_succ, sumN_succ, sumN_succ, sumN_add f g n]; omega
theorem sumN_zero : ∀ n : Nat, sumN n (fun _ => 0) = 0
  | 0 => rfl
  | n + 1 => by rw [sumN_succ, sumN_zero n]
theorem Fo_comm (n : Nat) (o : List Int) (i j : Nat) : Fo n o i j = Fo n o j i := by
  unfold Fo
  by_cases h : i < j
  · rw [if_pos h, if_neg (by omega), if_pos h]
  · by_cases h2 : j < i
    · rw [if_neg h, if_pos h2, if_pos h2]
    · rw [if_neg h, if_neg h2, if_neg h2, if_neg h]
theorem Fo_self (n : Nat) (o : List Int) (i : Nat) : Fo n o i i = 0 := by unfold Fo; rw [if_neg (Nat.lt_irrefl _), if_neg (Nat.lt_irrefl _)]
theorem S2_pc (n : Nat) (o : List Int) : S2 n o = 2 * pcN n o := by
  have key : ∀ m : Nat, (sumN m fun i => sumN m fun j => Fo n o i j) = 2 * sumN m fun j => sumN j fun i => ((ig o (j : Int) - ig o (i : Int)) / (n : Int)).natAbs := by
    intro m
    induction m with
    | zero => rfl
    | succ m ih =>
      have e1 : sumN m (fun i => sumN (m + 1) fun j => Fo n o i j) = (sumN m fun i => sumN m fun j => Fo n o i j) + sumN m fun i => Fo n o i m := by
        rw [← sumN_add]
        exact sumN_congr fun i _ => sumN_succ m _
      have e2 : (sumN m fun j => Fo n o m j) = sumN m fun i => Fo n o i m := sumN_congr fun j _ => Fo_comm n o m j
      have e3 : (sumN m fun i => Fo n o i m) = sumN m fun i => ((ig o (m : Int) - ig o (i : Int)) / (n : Int)).natAbs := sumN_congr fun i hi => by unfold Fo; rw [if_pos hi]
      rw [sumN_succ, sumN_succ m (fun j => sumN j fun i => ((ig o (j : Int) - ig o (i : Int)) / (n : Int)).natAbs), e1, sumN_succ m (fun j => Fo n o m j), Fo_self, ih, e2, e3]
      omega
  exact key n
/-- ⌊-x/n⌋ -/
theorem neg_ediv {n : Nat} (h : 0 < n) {x : Int} (hx : ¬ x % (n : Int) = 0) : (-x) / (n : Int) = -(x / n) - 1 := by
  have h0 := Int.emod_nonneg x (show (n : Int) ≠ 0 by omega)
  have h1 := Int.emod_lt_of_pos x (show (0 : Int) < n by omega)
  have h2 := Int.emod_add_mul_ediv x n
  have e : -x = (n - x % n) + (-(x / n) - 1) * n := by
    rw [Int.sub_mul, Int.neg_mul, Int.mul_comm (x / n) n]; omega
  rw [e, Int.add_mul_ediv_right _ _ (by omega), Int.ediv_eq_zero_of_lt (by omega) (by omega)]
  omega
/-! ### slices, any places -/
end DL
/-! the data layer, part 36: one statement that only looks at an own list, which is changed later -/
namespace DL
open PySem PySem.Spec PyProof.Rows L2
end DL
/-! the data layer, part 37: comprehensions with two for -/
namespace DL
open PySem PySem.Spec PyProof.Rows L2
theorem wipe_idem (τ : L2.St) : ∀ vs : List Nat, L2.wipe (L2.wipe τ vs) vs = L2.wipe τ vs := by
  intro ws
  induction ws with
  | nil => rfl
  | cons w ws ih =>
    show (L2.wipe ((L2.wipe τ ws).set w none) ws).set w none = (L2.wipe τ ws).set w none
    by_cases hww : w ∈ ws
    · rw [wipe_set hww, ih]
    · have comm : ∀ {us : List Nat} {τ' : L2.St}, w ∉ us → L2.wipe (τ'.set w none) us = (L2.wipe τ' us).set w none := fun {us τ'} => by
        induction us with
        | nil => intro _; rfl
        | cons u us ih2 =>
          intro hn
          unfold L2.wipe
          rw [ih2 fun z => hn (List.mem_cons_of_mem _ z)]
          exact List.set_comm _ _ (fun z => hn (by simp [z]))
      rw [comm hww, List.set_set, ih]
def comp2M (src : Src) (mg : DTG) (mt : DTT) (mi1 : DTI) (mg1 : DTG) (mt1 : DTT) (me : DTE) (vs vs1 : List Nat) (Q : List D → Env → Prop) : List D → List D → Env → Prop
  | [], acc, Γ => srcD Γ src ∧ Q acc Γ
  | x :: xs, acc, Γ => srcD Γ src ∧ okOwn Γ vs = true ∧ mg x (wipeD Γ vs) fun Γ2 => mt Γ2 fun b Γ3 =>
      if b = true then mi1 Γ3 fun src1 items1 Γ4 => compM src1 mg1 mt1 me vs1 (fun acc' Γ5 => comp2M src mg mt mi1 mg1 mt1 me vs vs1 Q xs acc' (restD Γ Γ5 vs)) items1 acc Γ4 else comp2M src mg mt mi1 mg1 mt1 me vs vs1 Q xs acc (restD Γ Γ3 vs)
def mComp2 (mi : DTI) (mg : DTG) (mt : DTT) (mi1 : DTI) (mg1 : DTG) (mt1 : DTT) (me : DTE) (vs vs1 : List Nat) : DTE := fun Γ Q => mi Γ fun src items Γ1 => comp2M src mg mt mi1 mg1 mt1 me vs vs1 (fun acc Γ2 => Q (.fr (.lst acc)) Γ2) items [] Γ1
section
variable {C : Ctx} {Γ : Env} {O : List Addr} {σ : L2.St} {H : Hp} {p : Addr} {o o' : HO}
theorem RelO.swapU (R : RelO { C with U := (p, o) :: C.U } Γ (p :: O) σ H) (h0 : C.H0 p = none) (hU : ∀ q ∈ C.U, q.1 ≠ p) : RelO { C with U := (p, o') :: C.U } Γ (p :: O) σ (upd H p o') := by
  have hm := (R.uu _ List.mem_cons_self).2.2
  have RC : RelO C Γ (p :: O) σ H := R.backU fun q hq => List.mem_cons_of_mem _ hq
  have Ru := RC.updFree (o := o') List.mem_cons_self h0 hm hU
  refine Ru.congrU fun q hq => ?_
  rcases List.mem_cons.mp hq with z | z
  · subst z; exact ⟨upd_same, List.mem_cons_self, hm⟩
  · exact Ru.uu q z
theorem SrcOk.congrU {U U' : List (Addr × HO)} {g : List Addr → Hp → Prop} {src : Src} (h : SrcOk { C with U := U } Γ O σ H g src) : SrcOk { C with U := U' } Γ O σ H g src := by
  cases src <;> exact h
/-- the turn's target: a value that is yielded -/
theorem ItD_yld {C : Ctx} {J : It} {n : Nat} {gg : List Addr → Hp → Prop} {items : List D} {Γi : Env} {Dd : Addr} {O : List Addr} {σ : L2.St} {Hc H' : Hp} {i : Nat} {x : V} {U : List (Addr × HO)} (itd : ItD C.K J n gg items) (Ri : RelO { C with U := U } Γi (Dd :: O) σ Hc) (gi : gg (Dd :: O) Hc) (hlt : i < n) (hil : i < items.length) (y : J.yld i Hc x H') :
    RelO { C with U := U } Γi (Dd :: O) σ H' ∧ Rep C.K (hide (Dd :: O) H') x items[i] ∧ Same (hide (Dd :: O) Hc) (hide (Dd :: O) H') := by
  obtain ⟨d, hd, hx⟩ := itd.yld i _ _ x H' gi hlt y
  have hdi : d = items[i] := by
    rw [List.getElem?_eq_getElem hil] at hd
    exact (Option.some.inj hd).symm
  rw [← hdi]
  rcases hx with ⟨rfl, hx⟩ | ⟨p, pvs, pds, rfl, hp, rfl, hr, rfl⟩
  · exact ⟨Ri, hx, L2.Same.refl _⟩
  · exact ⟨Ri.alloc hp, .tup (by rw [hide_out (Ri.notin hp)]; exact upd_same) (hr.mono (hide_new hp)), hide_new hp⟩
end
section
variable {C : Ctx}
theorem sim_comp2 {wi wi1 : TI} {g g1 : TG} {tt tt1 : TT} {te : TE} {vs vs1 : List Nat} {mi mi1 : DTI} {mg mg1 : DTG} {mt mt1 : DTT} {me : DTE} (hi : SimI C wi mi) (hg : ∀ U, SimG { C with U := U } g mg) (hgo : OwnG g vs) (ht : ∀ U, SimT { C with U := U } tt mt) (hi1 : ∀ U, SimI { C with U := U } wi1 mi1) (hg1 : ∀ U, SimG { C with U := U } g1 mg1) (hgo1 : OwnG g1 vs1) (ht1 : ∀ U, SimT { C with U := U } tt1 mt1) (he : ∀ U, SimE { C with U := U } te me)
    (hgm : ∀ (v : V) (σ : L2.St) (H : Hp) (Q Q' : L2.St → Hp → Prop), (∀ σ H, Q σ H → Q' σ H) → g v σ H Q → g v σ H Q') (hgm1 : ∀ (v : V) (σ : L2.St) (H : Hp) (Q Q' : L2.St → Hp → Prop), (∀ σ H, Q σ H → Q' σ H) → g1 v σ H Q → g1 v σ H Q') : SimE C (tLc2 wi g tt wi1 g1 tt1 te vs vs1) (mComp2 mi mg mt mi1 mg1 mt1 me vs vs1) := fun Γ O σ H Qd Q R h k => by
  refine hi Γ O σ H _ _ R h fun src items Γ1 J H1 n gg R1 e1 itd sok q => ?_
  intro Dd hD
  have h0 : C.H0 Dd = none := R1.fresh0 hD
  have hDO : Dd ∉ O := R1.notin hD
  have hU : ∀ q ∈ C.U, q.1 ≠ Dd := fun q hq => ne_of_none (R1.uu q hq).1 hD
  have hM1 : ∀ i, ¬ MutAt Γ1 σ i Dd := fun i hm => hDO (R1.mutIn hm)
  let QQ : List D → Env → Prop := fun acc Γ2 => Qd (.fr (.lst acc)) Γ2
  let Wp : Nat → Nat → Hp → Prop := fun i m Hc => m = n - i ∧ i ≤ n ∧ ∃ (acc : List D) (vacc : List V) (Γi : Env), RelO { C with U := (Dd, .lst vacc) :: C.U } Γi (Dd :: O) σ Hc ∧ Same (hide O H1) (hide (Dd :: O) Hc) ∧ Reps C.K (hide (Dd :: O) Hc) vacc acc ∧
    comp2M src mg mt mi1 mg1 mt1 me vs vs1 QQ (items.drop i) acc Γi
  refine ⟨Wp, ⟨n, by simp, Nat.zero_le _, [], [], Γ1, ?_, hide_newO hD, .nil, q⟩, ?_⟩
  · refine (R1.allocO hD).congrU fun q hq => ?_
    rcases List.mem_cons.mp hq with z | z
    · subst z; exact ⟨upd_same, List.mem_cons_self, hM1⟩
    · exact (R1.allocO hD).uu q z
  rintro i m Hc ⟨rfl, hin, acc, vacc, Γi, Ri, ei, ri, qi⟩
  have RC : RelO C Γi (Dd :: O) σ Hc := Ri.backU fun q hq => List.mem_cons_of_mem _ hq
  have hDc : Hc Dd = some (.lst vacc) := (Ri.uu _ List.mem_cons_self).1
  have hDm : ∀ i, ¬ MutAt Γi σ i Dd := (Ri.uu _ List.mem_cons_self).2.2
  by_cases hlt : i < n
  · have hil : i < items.length := by rw [itd.len]; exact hlt
    have ed : items.drop i = items[i] :: items.drop (i + 1) := List.drop_eq_getElem_cons hil
    rw [ed] at qi
    obtain ⟨hs, hk, qi⟩ := qi
    have gi : gg (Dd :: O) Hc := sok.at ei RC hs
    refine .inr ⟨itd.go i _ _ gi hlt, fun H' => Wp (i + 1) (n - (i + 1)) H', fun H' w => ⟨n - (i + 1), by omega, w⟩, fun x H' y => ?_⟩
    obtain ⟨R', r', e'⟩ := ItD_yld itd Ri gi hlt hil y
    refine hgm _ _ _ _ _ (fun σ2 H2 q2 => ?_) (hgo _ _ _ _ (hg _ (wipeD Γi vs) (Dd :: O) (L2.wipe σ vs) H' x items[i] _ (fun σ2 H2 => ∃ Γ2, RelO { C with U := (Dd, .lst vacc) :: C.U } Γ2 (Dd :: O) σ2 H2 ∧ Same (hide (Dd :: O) H') (hide (Dd :: O) H2) ∧ mt Γ2 fun b Γ3 =>
        if b = true then mi1 Γ3 fun src1 items1 Γ4 => compM src1 mg1 mt1 me vs1 (fun acc' Γ5 => comp2M src mg mt mi1 mg1 mt1 me vs vs1 QQ (items.drop (i + 1)) acc' (restD Γi Γ5 vs)) items1 acc Γ4 else comp2M src mg mt mi1 mg1 mt1 me vs vs1 QQ (items.drop (i + 1)) acc (restD Γi Γ3 vs))
        (R'.wipe hk) r' qi fun Γ2 σ2 H2 R2 e2 q2 => ⟨Γ2, R2, e2, q2⟩))
    obtain ⟨hw, Γ2, R2, e2, q2⟩ := q2
    have hw' : L2.wipe σ2 vs = L2.wipe σ vs := hw.trans (wipe_idem σ vs)
    refine ⟨hw', ?_⟩
    refine ht _ Γ2 (Dd :: O) σ2 H2 _ _ R2 q2 fun b Γ3 H3 R3 e3 q3 => ?_
    have eAll3 := L2.Same.trans ei (L2.Same.trans e' (L2.Same.trans e2 e3))
    cases b with
    | true =>
      refine hi1 _ Γ3 (Dd :: O) σ2 H3 _ _ R3 q3 fun src1 items1 Γ4 J1 H4 n1 gg1 R4 e4 itd1 sok1 q4 => ?_
      have eB : Same (hide (Dd :: O) H') (hide (Dd :: O) H4) := L2.Same.trans e2 (L2.Same.trans e3 e4)
      let W1 : Nat → Nat → Hp → Prop := fun j m Hj => m = n1 - j ∧ j ≤ n1 ∧ ∃ (acc : List D) (vacc : List V) (Γj : Env), RelO { C with U := (Dd, .lst vacc) :: C.U } Γj (Dd :: O) σ2 Hj ∧ Same (hide (Dd :: O) H4) (hide (Dd :: O) Hj) ∧ Reps C.K (hide (Dd :: O) Hj) vacc acc ∧
        compM src1 mg1 mt1 me vs1 (fun acc' Γ5 => comp2M src mg mt mi1 mg1 mt1 me vs vs1 QQ (items.drop (i + 1)) acc' (restD Γi Γ5 vs)) (items1.drop j) acc Γj
      refine ⟨W1, ⟨n1, by simp, Nat.zero_le _, acc, vacc, Γ4, R4, L2.Same.refl _, ri.mono (L2.Same.trans e' eB), q4⟩, ?_⟩
      rintro j m Hj ⟨rfl, hjn, acj, vacj, Γj, Rj, ej, rj, qj⟩
      have sok1' : SrcOk { C with U := (Dd, .lst vacj) :: C.U } Γ4 (Dd :: O) σ2 H4 gg1 src1 := sok1.congrU
      by_cases hlj : j < n1
      · have hjl : j < items1.length := by rw [itd1.len]; exact hlj
        have ed1 : items1.drop j = items1[j] :: items1.drop (j + 1) := List.drop_eq_getElem_cons hjl
        rw [ed1] at qj
        obtain ⟨hsj, hkj, qj⟩ := qj
        have gj : gg1 (Dd :: O) Hj := sok1'.at ej Rj hsj
        refine .inr ⟨itd1.go j _ _ gj hlj, fun H' => W1 (j + 1) (n1 - (j + 1)) H', fun H' w => ⟨n1 - (j + 1), by omega, w⟩, fun z Hz y1 => ?_⟩
        obtain ⟨Rz, rz, ez⟩ := ItD_yld (C := C) itd1 Rj gj hlj hjl y1
        refine hgm1 _ _ _ _ _ (fun σ3 H5 q5 => ?_) (hgo1 _ _ _ _ (hg1 _ (wipeD Γj vs1) (Dd :: O) (L2.wipe σ2 vs1) Hz z items1[j] _ (fun σ3 H5 => ∃ Γ5, RelO { C with U := (Dd, .lst vacj) :: C.U } Γ5 (Dd :: O) σ3 H5 ∧ Same (hide (Dd :: O) Hz) (hide (Dd :: O) H5) ∧ mt1 Γ5 fun b Γ6 =>
            if b = true then me Γ6 fun r Γ7 => ∃ d, dat r = some d ∧ acj.length < 100000 ∧ compM src1 mg1 mt1 me vs1 (fun acc' Γ5 => comp2M src mg mt mi1 mg1 mt1 me vs vs1 QQ (items.drop (i + 1)) acc' (restD Γi Γ5 vs)) (items1.drop (j + 1)) (acj ++ [d]) (restD Γj Γ7 vs1) else compM src1 mg1 mt1 me vs1 (fun acc' Γ5 => comp2M src mg mt mi1 mg1 mt1 me vs vs1 QQ (items.drop (i + 1)) acc' (restD Γi Γ5 vs)) (items1.drop (j + 1)) acj (restD Γj Γ6 vs1))
            (Rz.wipe hkj) rz qj fun Γ5 σ3 H5 R5 e5 q5 => ⟨Γ5, R5, e5, q5⟩))
        obtain ⟨hw1, Γ5, R5, e5, q5⟩ := q5
        have hw1' : L2.wipe σ3 vs1 = L2.wipe σ2 vs1 := hw1.trans (wipe_idem σ2 vs1)
        refine ⟨hw1', ?_⟩
        refine ht1 _ Γ5 (Dd :: O) σ3 H5 _ _ R5 q5 fun b Γ6 H6 R6 e6 q6 => ?_
        have eAll6 := L2.Same.trans ej (L2.Same.trans ez (L2.Same.trans e5 e6))
        cases b with
        | true =>
          refine he _ Γ6 (Dd :: O) σ3 H6 _ _ R6 q6 fun r Γ7 w H7 R7 e7 q7 => ?_
          obtain ⟨dy, hdy, hacc, q7⟩ := q7
          have ry : Rep C.K (hide (Dd :: O) H7) w dy := R7.pend.dat hdy
          have hD7 : H7 Dd = some (.lst vacj) := (R7.rel.uu _ List.mem_cons_self).1
          have e8 : hide (Dd :: O) (upd H7 Dd (.lst (vacj ++ [w]))) = hide (Dd :: O) H7 := hide_mut List.mem_cons_self
          have racc : Reps C.K (hide (Dd :: O) H7) vacj acj := rj.mono (L2.Same.trans ez (L2.Same.trans e5 (L2.Same.trans e6 e7.1)))
          refine ⟨vacj, hD7, by rw [racc.length]; exact Nat.lt_of_lt_of_le hacc (by decide), rfl, hlj, acj ++ [dy], vacj ++ [w], restD Γj Γ7 vs1, ?_, ?_, ?_, q7⟩
          · exact (Rz.rest (L2.Same.trans e5 (L2.Same.trans e6 e7.1)) R7.rel hw1' hkj).swapU h0 hU
          · rw [e8]; exact L2.Same.trans eAll6 e7.1
          · rw [e8]; exact racc.append (.cons ry .nil)
        | false =>
          exact ⟨rfl, hlj, acj, vacj, restD Γj Γ6 vs1, Rz.rest (L2.Same.trans e5 e6) R6 hw1' hkj, eAll6, rj.mono (L2.Same.trans ez (L2.Same.trans e5 e6)), q6⟩
      · have e : j = n1 := by omega
        subst e
        rw [List.drop_of_length_le (l := items1) (by rw [itd1.len]; exact Nat.le_refl _)] at qj
        obtain ⟨hsj, qj⟩ := qj
        refine .inl ⟨itd1.stop _ _ (sok1'.at ej Rj hsj), rfl, hlt, acj, vacj, restD Γi Γj vs, ?_, L2.Same.trans ei (L2.Same.trans e' (L2.Same.trans eB ej)), rj, qj⟩
        have R'' : RelO { C with U := (Dd, .lst vacj) :: C.U } Γi (Dd :: O) σ (upd H' Dd (.lst vacj)) := R'.swapU h0 hU
        have e9 : hide (Dd :: O) (upd H' Dd (.lst vacj)) = hide (Dd :: O) H' := hide_mut List.mem_cons_self
        exact R''.rest (by rw [e9]; exact L2.Same.trans eB ej) Rj hw' hk
    | false =>
      exact ⟨rfl, hlt, acc, vacc, restD Γi Γ3 vs, R'.rest (L2.Same.trans e2 e3) R3 hw' hk, eAll3, ri.mono (L2.Same.trans e' (L2.Same.trans e2 e3)), q3⟩
  · have e : i = n := by omega
    subst e
    rw [List.drop_of_length_le (by rw [itd.len]; exact Nat.le_refl _)] at qi
    obtain ⟨hs, qi⟩ := qi
    refine .inl ⟨itd.stop _ _ (sok.at ei RC hs), ?_⟩
    obtain ⟨RO, eO⟩ := RC.letgo (O' := O) h0 hDm hU fun a => ⟨fun ha => ⟨List.mem_cons_of_mem _ ha, fun z => hDO (z ▸ ha)⟩, fun ha => (List.mem_cons.mp ha.1).resolve_left ha.2⟩
    exact k (.fr (.lst acc)) Γi (.ref Dd) Hc ⟨RO, Dd, .lst vacc, rfl, hDc, hDO, h0, .lst ri, RC⟩ (.fr (L2.Same.trans e1 ei)) qi
end
section
variable {X : Cx} {C : Ctx} {elt tg iter tg1 iter1 : Expr} {pos : Pos} {wi wi1 : TI} {g g1 : TG} {tt tt1 : TT} {te : TE} {mi mi1 : DTI} {mg mg1 : DTG} {mt mt1 : DTT} {me : DTE} {ifs ifs1 : List Expr} {scope : Scope} {own : List (Str × Nat)} {vs1 : List Nat}
/-- the parts of a comprehension with two for -/
structure DL2 (X : Cx) (C : Ctx) (elt tg iter : Expr) (ifs : List Expr) (tg1 iter1 : Expr) (ifs1 : List Expr) (scope : Scope) (own : List (Str × Nat)) (vs1 : List Nat) (wi : TI) (g : TG) (tt : TT) (wi1 : TI) (g1 : TG) (tt1 : TT) (te : TE) (mi : DTI) (mg : DTG) (mt : DTT) (mi1 : DTI) (mg1 : DTG) (mt1 : DTT) (me : DTE) : Prop where
  calm : X.calm = true
  nd : X.N.Nodup
  hi : DI X C tg iter wi mi
  ok : BlkOk X.N X.env.scope scope own
  hv : ∀ i ∈ vs1, i ∈ own.map (·.2)
  hg : ∀ (U : List (Addr × HO)) (s : Shared) (H : Hp) (A : Addr) (cl : List (Str × Addr)) (fp : List Addr), DG (X.blk s H scope (compEnvC scope cl A X.env) fp) { C with U := U } tg g mg
  hgo : OwnG g (own.map (·.2))
  hgm : ∀ (v : V) (σ : L2.St) (H : Hp) (Q Q' : L2.St → Hp → Prop), (∀ σ H, Q σ H → Q' σ H) → g v σ H Q → g v σ H Q'
  ht : ∀ (U : List (Addr × HO)) (s : Shared) (H : Hp) (A : Addr) (cl : List (Str × Addr)) (fp : List Addr), DF (X.blk s H scope (compEnvC scope cl A X.env) fp) { C with U := U } ifs tt mt
  hi1 : ∀ (U : List (Addr × HO)) (s : Shared) (H : Hp) (A : Addr) (cl : List (Str × Addr)) (fp : List Addr), DI (X.blk s H scope (compEnvC scope cl A X.env) fp) { C with U := U } tg1 iter1 wi1 mi1
  hg1 : ∀ (U : List (Addr × HO)) (s : Shared) (H : Hp) (A : Addr) (cl : List (Str × Addr)) (fp : List Addr), DG (X.blk s H scope (compEnvC scope cl A X.env) fp) { C with U := U } tg1 g1 mg1
  hgo1 : OwnG g1 vs1
  hgm1 : ∀ (v : V) (σ : L2.St) (H : Hp) (Q Q' : L2.St → Hp → Prop), (∀ σ H, Q σ H → Q' σ H) → g1 v σ H Q → g1 v σ H Q'
  ht1 : ∀ (U : List (Addr × HO)) (s : Shared) (H : Hp) (A : Addr) (cl : List (Str × Addr)) (fp : List Addr), DF (X.blk s H scope (compEnvC scope cl A X.env) fp) { C with U := U } ifs1 tt1 mt1
  he : ∀ (U : List (Addr × HO)) (s : Shared) (H : Hp) (A : Addr) (cl : List (Str × Addr)) (fp : List Addr), DE (X.blk s H scope (compEnvC scope cl A X.env) fp) { C with U := U } elt te me
theorem DL2.sim (h : DL2 X C elt tg iter ifs tg1 iter1 ifs1 scope own vs1 wi g tt wi1 g1 tt1 te mi mg mt mi1 mg1 mt1 me) (s : Shared) : SimE C (tLc2 wi g tt wi1 g1 tt1 te (own.map (·.2)) vs1) (mComp2 mi mg mt mi1 mg1 mt1 me (own.map (·.2)) vs1) :=
  sim_comp2 h.hi.sim (fun U => (h.hg U s (fun _ => none) 0 [] []).sim) h.hgo (fun U => (h.ht U s (fun _ => none) 0 [] []).sim) (fun U => (h.hi1 U s (fun _ => none) 0 [] []).sim) (fun U => (h.hg1 U s (fun _ => none) 0 [] []).sim) h.hgo1 (fun U => (h.ht1 U s (fun _ => none) 0 [] []).sim) (fun U => (h.he U s (fun _ => none) 0 [] []).sim) h.hgm h.hgm1
theorem de_comp2 (h : DL2 X C elt tg iter ifs tg1 iter1 ifs1 scope own vs1 wi g tt wi1 g1 tt1 te mi mg mt mi1 mg1 mt1 me) (hs : ∀ x, foldedSetIterable iter X.env x = pure x := by intro _; rfl) (hs1 : ∀ (env : PySem.Env) x, foldedSetIterable iter1 env x = pure x := by intro _ _; rfl) :
    DE X C (.ListComp elt [⟨tg, iter, ifs, 0⟩, ⟨tg1, iter1, ifs1, 0⟩] scope pos) (tLc2 wi g tt wi1 g1 tt1 te (own.map (·.2)) vs1) (mComp2 mi mg mt mi1 mg1 mt1 me (own.map (·.2)) vs1) :=
  ⟨pe_lc2 h.calm h.nd h.hi.pi h.ok h.hv (fun s H A cl fp => (h.hg C.U s H A cl fp).pg) (fun s H A cl fp => (h.ht C.U s H A cl fp).pts) (fun s H A cl fp => (h.hi1 C.U s H A cl fp).pi) (fun s H A cl fp => (h.hg1 C.U s H A cl fp).pg) (fun s H A cl fp => (h.ht1 C.U s H A cl fp).pts) (fun s H A cl fp => (h.he C.U s H A cl fp).pe) hs hs1, h.sim X.s_0⟩
end
section
variable {src : Src} {mi mi1 : DTI} {mg mg1 : DTG} {mt mt1 : DTT} {me : DTE} {vs vs1 : List Nat}
theorem w_Comp2 {Γ : Env} {Q : QE} (h : mi Γ fun src items Γ1 => comp2M src mg mt mi1 mg1 mt1 me vs vs1 (fun acc Γ2 => Q (.fr (.lst acc)) Γ2) items [] Γ1) : mComp2 mi mg mt mi1 mg1 mt1 me vs vs1 Γ Q := h
theorem comp2_inv {Q : List D → Env → Prop} (I : List D → List D → Env → Prop) (hs : ∀ xs acc Γ, I xs acc Γ → srcD Γ src ∧ okOwn Γ vs = true) (hn : ∀ acc Γ, I [] acc Γ → Q acc Γ)
    (hc : ∀ x xs acc Γ (N : List D → Env → Prop), I (x :: xs) acc Γ → (∀ acc' Γ', I xs acc' Γ' → N acc' Γ') → mg x (wipeD Γ vs) fun Γ2 => mt Γ2 fun b Γ3 => if b = true then mi1 Γ3 fun src1 items1 Γ4 => compM src1 mg1 mt1 me vs1 (fun acc' Γ5 => N acc' (restD Γ Γ5 vs)) items1 acc Γ4 else N acc (restD Γ Γ3 vs)) :
    ∀ (items acc : List D) (Γ : Env), I items acc Γ → comp2M src mg mt mi1 mg1 mt1 me vs vs1 Q items acc Γ
  | [], acc, Γ, h => ⟨(hs _ _ _ h).1, hn _ _ h⟩
  | x :: xs, acc, Γ, h => ⟨(hs _ _ _ h).1, (hs _ _ _ h).2, hc x xs acc Γ (fun a g => comp2M src mg mt mi1 mg1 mt1 me vs vs1 Q xs a g) h fun a' Γ' h' => comp2_inv I hs hn hc xs a' Γ' h'⟩
end
end DL
/-! the data layer, part 38: calls with keywords -/
namespace DL
open PySem PySem.Spec PyProof.Rows L2
/-- n arguments by place, the others by name, in the order of the parameters -/
structure KwB (K : Fg) (fd : FuncData) (ps : List Str) (n : Nat) (ks : List Str) : Prop where
  to : ∀ (s : Shared) (us ws : List Value), K.In s.heap → us.length = n → ws.length = ks.length → BindsTo s fd { pos := us, kw := ks.zip ws } (ps.zip (us ++ ws))
def lenP : Nat → List V → Prop → Prop
  | 0, [], p => p
  | n + 1, _ :: vs, p => lenP n vs p
  | _, _, _ => False
theorem lenP_len : ∀ {n : Nat} {vs : List V} {p : Prop}, lenP n vs p → vs.length = n ∧ p
  | 0, [], _, h => ⟨rfl, h⟩
  | n + 1, v :: vs, p, h => ⟨by rw [List.length_cons, (lenP_len (n := n) (vs := vs) h).1], (lenP_len (n := n) (vs := vs) h).2⟩
  | 0, _ :: _, _, h => h.elim
  | _ + 1, [], _, h => h.elim
theorem kwB_of {K : Fg} {x qual : Str} {st : Stmt} {f : Addr} {fd : FuncData} {ps ks : List Str} {n : Nat} (F : Fun K x qual st f fd) (h : ∀ (kV doc pm : Value) (an : Option Addr) (cdv ct : Value) (us ws : List Value), us.length = n → ws.length = ks.length → bindArgs (PySem.W.fnOf x qual (defArgs st) (defBody st) (defScope st) .none kV doc pm an cdv ct) ⟨us, ks.zip ws⟩ = pure (ps.zip (us ++ ws))) : KwB K fd ps n ks := by
  obtain ⟨oc, od, kV, doc, pm, an, cdv, ct, osl, rfl, _, _⟩ := F.ex
  exact ⟨fun s us ws _ h1 h2 => BindsTo.of_eq (h kV doc pm an cdv ct us ws h1 h2)⟩
end DL
/-! the data layer, part 39: exceptions -/
namespace DL
open PySem PySem.Spec PyProof.Rows L2
/-- what must hold where an exception arises: its class by name, its fields, the slots -/
abbrev Dwx := Str → List (Str × D) → Env → Prop
abbrev noW : Dwx := fun _ _ _ => False
abbrev emH : Hp := fun _ => none
/-- the dict of an exception in the air, amid a def's body -/
def XdAt (C : Ctx) (H : Hp) (d : Option Addr) (fds : List (Str × D)) : Prop := (d = none ∧ fds = []) ∨ ∃ dx fvs, d = some dx ∧ C.H0 dx = none ∧ H dx = some (.xd fvs) ∧ fvs.map (·.1) = fds.map (·.1) ∧ Reps C.K emH (fvs.map (·.2)) (fds.map (·.2))
structure WLink (C : Ctx) (W : WX) (Wd : Dwx) : Prop where
  go : ∀ n c d fds Γ O σ H, RelO C Γ O σ H → XNm C.K n c → XdAt C H d fds → Wd n fds Γ → W (.ref c) d σ H
theorem WLink.no {C : Ctx} {W : WX} : WLink C W noW := ⟨fun _ _ _ _ _ _ _ _ _ _ _ h => h.elim⟩
/-! ### calls that may raise -/
def tCallW (sp : Sp) (W : WX) (t : TA) : TE := fun σ H Q => t σ H fun vs H1 => sp vs H1 Q (WE W σ)
def mCallX (Wd : Dwx) (ms : List Md) (sd : DSp) (ma : DTA) : DTE := fun Γ Q => ma Γ fun rs Γ1 => ∃ ds, argsD Γ1 ms rs = some ds ∧ apartB ms rs = true ∧
  sd ds (fun b d ds' => ∃ Γ2, putsD (mPls ms rs) ds' Γ1 = some Γ2 ∧ Q (if b = true then frOf d else .val d) Γ2) (fun n fds ds' => ∃ Γ2, putsD (mPls ms rs) ds' Γ1 = some Γ2 ∧ Wd n fds Γ2)
section
variable {X : Cx} {k n : Nat} {f : Addr} {fd : FuncData} {ps ks : List Str} {sp : Sp} {x : Str} {p pos : Pos} {e : Expr} {es : List Expr} {kws : List Keyword} {t tk ta : TA} {W : WX}
theorem run_gKW {pins : List (Addr × Obj)} {σ : L2.St} {H : Hp} {s : Shared} {Q : VK} {us ws : List Value} {vs zs : List V} (F : FnG X.prog X.w X.K X.mg X.base k f fd ps sp) (hg : X.A.guards = some []) (hr : Room k X.A) (hb : KwB X.K fd ps n ks) (tk : Takes X W)
    (I : Inv X pins σ H s) (r : Vals vs us) (r2 : Vals zs ws) (hn : vs.length = n) (hm : zs.length = ks.length) (h : sp (vs ++ zs) H Q (WE W σ)) : wpAny (model X.prog X.w) X.A (call (.ref f) us (ks.zip ws)) (EP X pins σ Q) X.xe s := by
  have hl : us.length = n := by rw [← r.length]; exact hn
  have hl2 : ws.length = ks.length := by rw [← r2.length]; exact hm
  refine wpAny_call (codeAny_mono (F.go X.A hg hr X.stack s H ⟨us, ks.zip ws⟩ (us ++ ws) (vs ++ zs) Q (WE W σ) I.env0 (hb.to s us ws I.kIn hl hl2) (r.append r2) h) fun r s' hq => ?_)
  cases r with
  | error e => exact passAt tk σ pins H s e s' I hq
  | ok fl =>
    cases fl with
    | ret u => exact I.after hq
    | next => exact False.elim hq
    | brk => exact False.elim hq
    | cont => exact False.elim hq
theorem pe_gKW (F : FnG X.prog X.w X.K X.mg X.base k f fd ps sp) (hg : X.A.guards = some []) (hr : Room k X.A) (hgl : Gl X x) (hm : X.mg x = some (.ref f)) (hk : PySem.W.keepIn X.K (.ref f) = true) (hb : KwB X.K fd ps n ks) (tkx : Takes X W)
    (ha : PA X (e :: es) t) (hkw : PK X kws tk) (hta : ∀ σ H Q, ta σ H Q → t σ H fun vs H1 => lenP n vs (tk σ H1 fun zs H2 => lenP ks.length zs (Q (vs ++ zs) H2)))
    (hall : ((backToKw pos (keywordEach kws X.env)).all fun x => x.1.isSome) = true := by rfl) (hks : (backToKw pos (keywordEach kws X.env)).filterMap (fun x => x.1) = ks := by rfl) (hdb : (x == ("__debug__" : Str)) = false := by decide)
    (he : starEach (e :: es) X.env = (false, eval e X.env) :: starEach es X.env := by rfl) (hpl : (((backTo pos (starEach (e :: es) X.env)).any fun x => x.1) || (backToKw pos (keywordEach kws X.env)).any fun x => x.1.isNone) = false := by rfl) : PE X (.Call (.Name x p) (e :: es) kws pos) (tCallW sp W ta) :=
  ⟨fun pins s σ H Q I h => wpAny_Call_Name_kw (ld_glob I hgl hm (PySem.W.callWith_KW (h₀ := X.base) I.ok.mod.kin hk hall
    (thn (ha.run pos pins s σ H _ I (hta _ _ _ h)) fun us s1 ⟨vs, H1, I1, r, q⟩ => thn (hkw.run pos pins s1 σ H1 _ I1 (lenP_len q).2) fun ws s2 ⟨zs, H2, I2, r2, q2⟩ => ⟨I2.kIn, by
      have hn := (lenP_len q).1
      obtain ⟨hm2, q2⟩ := lenP_len q2
      rw [hks]
      exact run_gKW F hg hr hb tkx I2 r r2 hn hm2 q2⟩) hpl he) hdb)⟩
end
section
variable {C : Ctx} {W : WX} {Wd : Dwx} {t : TA} {ma : DTA} {ms : List Md} {sd : DSp}
theorem xd_at {H H1 : Hp} {Γ : Env} {O : List Addr} {σ : L2.St} {d : Option Addr} {fds : List (Str × D)} (R : RelO C Γ O σ H) (h : XdOk C.K H H1 d fds) : XdAt C H1 d fds := by
  rcases h with h | ⟨dx, fvs, h1, h2, h3, h4, h5⟩
  · exact .inl h
  · exact .inr ⟨dx, fvs, h1, R.fresh0 h2, h3, h4, h5⟩
theorem sim_callW (wl : WLink C W Wd) (ha : SimA C t ma) : SimE C (tCallW (spD C.K ms sd) W t) (mCallX Wd ms sd ma) := fun Γ O σ H Qd Q R h k => by
  refine ha Γ O σ H _ _ R h fun rs Γ1 vs H1 R1 p1 e1 q1 => ?_
  obtain ⟨ds, hd, hap, hsd⟩ := q1
  refine call_core R1 p1 hd hap hsd (fun r Γ' v H' r1 se q => k r Γ' v H' r1 (.after e1 se) q) fun n c d H' O' fds ds' hR hn hx hE => ?_
  obtain ⟨Γ2, hput, hw⟩ := hE
  exact wl.go n c d fds Γ2 O' σ H' (hR Γ2 hput).1 hn (xd_at R1 hx) hw
end
section
variable {X : Cx} {C : Ctx} {W : WX} {Wd : Dwx} {k n : Nat} {f : Addr} {fd : FuncData} {ps : List Str} {ms : List Md} {sd : DSp} {x : Str} {p pos : Pos} {e : Expr} {es : List Expr} {t ta : TA} {ma : DTA}
theorem de_callKX {m0 : DTA} {t0 : TA} {e2 : Expr} {te2 : TE} {me2 : DTE} {nm : Str} {kpos : Pos} (tk : Takes X W) (wl : WLink C W Wd) (F : FnG X.prog X.w X.K X.mg X.base k f fd ps (spD X.K ms sd)) (hg : X.A.guards = some []) (hr : Room k X.A) (hgl : Gl X x) (hm : X.mg x = some (.ref f)) (hk : PySem.W.keepIn X.K (.ref f) = true) (hb : KwB X.K fd ps n [nm])
    (ha : DA X C (e :: es) t0 m0) (h2 : DE X C e2 te2 me2) (hs : DA X C ((e :: es) ++ [e2]) ta ma) {K0 : Fg} (hK0 : X.K = K0 := by rfl) (hK : K0 = C.K := by rfl) (hta : ∀ σ H Q, ta σ H Q → t0 σ H fun vs H1 => lenP n vs (tCons te2 tNil σ H1 fun zs H2 => lenP 1 zs (Q (vs ++ zs) H2)) := by exact fun _ _ _ h => h)
    (hall : ((backToKw pos (keywordEach [⟨some nm, e2, kpos⟩] X.env)).all fun x => x.1.isSome) = true := by rfl) (hks : (backToKw pos (keywordEach [⟨some nm, e2, kpos⟩] X.env)).filterMap (fun x => x.1) = [nm] := by rfl) (hdb : (x == ("__debug__" : Str)) = false := by decide)
    (he : starEach (e :: es) X.env = (false, eval e X.env) :: starEach es X.env := by rfl) (hpl : (((backTo pos (starEach (e :: es) X.env)).any fun x => x.1) || (backToKw pos (keywordEach [⟨some nm, e2, kpos⟩] X.env)).any fun x => x.1.isNone) = false := by rfl) :
    DE X C (.Call (.Name x p) (e :: es) [⟨some nm, e2, kpos⟩] pos) (tCallW (spD K0 ms sd) W ta) (mCallX Wd ms sd ma) := by
  subst hK0
  exact ⟨pe_gKW F hg hr hgl hm hk hb tk ha.pa (pk_cons h2.pe pk_nil) hta hall hks hdb he hpl, by rw [hK]; exact sim_callW wl hs.sim⟩
end
/-! ### a def that may raise -/
def wEnd (ms : List Md) (Ed : EdT) : Dwx := fun n fds Γ => Ed n fds (iosD ms Γ)
section
variable {P : Program} {w : World} {K : Fg} {mg : Str → Option Value} {base : Heap} {k : Nat} {f : Addr} {fd : FuncData} {ps : List Str}
theorem fn_dx {x qual : Str} {st : Stmt} {N : List Str} {ms : List Md} {sd : DSp} {m : Dwx → DTS} (F : Fun K x qual st f fd) (S : FnScope N ps (defScope st)) (hl : ms.length = ps.length)
    (hv : ∀ ds Qd Ed, ds.length = ms.length → sd ds Qd Ed → m (wEnd ms Ed) (endsD ms Qd) (startD N ms ds))
    (body : ∀ (cdv : Value) (A : Around) (outer : List PySem.Env) (s : Shared) (H0 : Hp) (vs : List V) (E : XK) (O : List Addr) (Wd : Dwx), (A.deeper (envOfC qual (defScope st) s.heap.objs.size f cdv)).guards = some [] → Room k (A.deeper (envOfC qual (defScope st) s.heap.objs.size f cdv)) →
      PassesOwn (model P w) (cxOf (L2.CX P w) P w K mg base N qual (defScope st) f cdv A outer s H0 E).A (cxOf (L2.CX P w) P w K mg base N qual (defScope st) f cdv A outer s H0 E).env (cxOf (L2.CX P w) P w K mg base N qual (defScope st) f cdv A outer s H0 E).xe →
      Takes (cxOf (L2.CX P w) P w K mg base N qual (defScope st) f cdv A outer s H0 E) (fun cls d _ H => E cls d H) → WLink (ctx0 K O H0 ms vs) (fun cls d _ H => E cls d H) Wd →
      ∃ t, DSs (cxOf (L2.CX P w) P w K mg base N qual (defScope st) f cdv A outer s H0 E) (ctx0 K O H0 ms vs) (defBody st) t (m Wd)) : FnG P w K mg base (k + 1) f fd ps (spD K ms sd) :=
  fn_g F S (spD_len hl) fun cdv A outer s H vs Q E hg hr hsp => by
    obtain ⟨O, ds, Qd, Ed, AO, al, nd, hsd, post, postx⟩ := hsp
    have wl : WLink (ctx0 K O H ms vs) (fun cls d _ H => E cls d H) (wEnd ms Ed) := ⟨fun n c d fds Γ O' σ H' R hn hx hw => by
      obtain ⟨p, m⟩ := post_of AO R
      refine postx n c d H' O' fds _ p m hn ?_ hw
      rcases hx with hx | ⟨dx, fvs, h1, h2, h3, h4, h5⟩
      · exact .inl hx
      · exact .inr ⟨dx, fvs, h1, h2, h3, h4, h5⟩⟩
    obtain ⟨t, d⟩ := body cdv A outer s H vs E O (wEnd ms Ed) hg hr (passes_of rfl) (takes_of rfl rfl rfl rfl) wl
    exact ⟨t, d.pss, d.sim _ _ _ _ _ _ (relO_start AO al nd) (hv ds Qd Ed AO.len.2 hsd) (link_end AO post)⟩
end
end DL
/-! the data layer, part 40: raise, try .. except -/
namespace DL
open PySem PySem.Spec PyProof.Rows L2
/-! ### own exception classes that keep their arguments as fields -/
structure XcK (K : Fg) (C fI : Addr) (fs : List Str) : Prop where
  ox : OexC K C
  iC : PySem.W.findIn K (.ref C) "__init__" = some (some (.ref fI))
  tI : PySem.W.typeIn K (.ref fI) = some (.type "function")
  no : ∀ f ∈ fs, PySem.W.findIn K (.ref C) f = some none
abbrev flds (fs : List Str) {α : Type} (vs : List α) : List (Str × α) := (fs.zip vs).reverse
/-- what the own __init__ promises -/
def spXI (K : Fg) (fs : List Str) : Sp := fun vs H Q E => ∃ (a C : Addr) (ys : List V), vs = .ref a :: ys ∧ ys.length = fs.length ∧ OexC K C ∧ (∀ f ∈ fs, PySem.W.findIn K (.ref C) f = some none) ∧ H a = some (exo a C none) ∧
  ∀ dx, H dx = none → dx ≠ a → Q .non (upd (upd H dx (exd dx (flds fs ys))) a (exo a C (some dx)))
theorem spXI_len {K : Fg} {fs ps : List Str} (hl : ps.length = fs.length + 1) : ∀ vs H Q E, spXI K fs vs H Q E → vs.length = ps.length := fun vs H Q E ⟨a, C, ys, h1, h2, _⟩ => by rw [h1, List.length_cons, h2, hl]
section
variable {X : Cx} {e : Expr} {es : List Expr} {ta : TA} {p p1 p2 pos : Pos} {x : Str}
theorem pe_rinit {pl : Sem Bool} {R : Addr} (hg : Gl X x) (hm : X.mg x = some (.ref R)) (rd : PySem.W.readsIn X.K R (.type "type") = true) (ga : PySem.W.specialIn X.K (.ref R) "__getattribute__" = some (some (.builtin "type.__getattribute__")))
    (vV : PySem.W.findCls X.K (.ref R) (.type "type") "__init__" = some (.val (.builtin "ValueError.__init__"))) (ha : PA X (e :: es) ta) (hdb : (x == ("__debug__" : Str)) = false := by decide)
    (hc : eval (.Call (.Attribute (.Name x p1) "__init__" p2) (e :: es) [] pos) X.env = (do
      let ov ← eval (.Name x p1) X.env
      standAt p2.atName
      let (f, first) ← holding [ov] (getMethod ov "__init__" pl)
      callWith pos f first (backTo pos (starEach (e :: es) X.env)) (backToKw pos (keywordEach [] X.env))) := by rfl)
    (he : starEach (e :: es) X.env = (false, eval e X.env) :: starEach es X.env := by rfl) (hpl : (backTo pos (starEach es X.env)).any (·.1) = false := by rfl) :
    PE X (.Call (.Attribute (.Name x p1) "__init__" p2) (e :: es) [] pos) (tVeI X.K ta) := by
  refine ⟨fun pins s σ H Q I h => ?_⟩
  refine PySem.W.methodCall_KW (ld_glob I hg hm ?_ hdb) hc
  refine PySem.W.method_cls I.kIn ga (PySem.W.cls_value I.kIn rd vV (by decide +kernel) ?_)
  show wpAny _ _ (callWith pos (Value.builtin "ValueError.__init__") [] (backTo pos (starEach (e :: es) X.env)) []) _ _ _
  refine PyProof.Rows.callWith_method1 (thn (ha.run pos pins _ σ H _ (I.tok _) h) fun us s1 ⟨vs, H1, I1, r1, a, C, ws, ev, hl, T, ea, q⟩ => ?_) he hpl
  subst ev
  cases r1 with
  | @cons _ u0 _ ur ra rw' =>
    obtain rfl : u0 = Value.ref a := ra
    have hlen : ur.length ≤ sizeLine := by
      rw [← Paired.length rw', sizeLine_eq]
      omega
    exact oinit_ok T I1 ea hlen fun s' J => ⟨.non, H1, J, rfl, q⟩
end
theorem read_init1 {K : Fg} {f1 m : Str} {vs : List V} {H : Hp} {Q : VK} {E : XK} (h : spXI K [f1] vs H Q E) :
    tSeq (tDrop (tVeI K (tCons (tVar 0) (tCons (tC (.str m)) tNil)))) (tOst K f1 (tVar 0) (tVar 1)) { nx := fun _ H' => Q .non H', rt := Q } (L2.start ["self", f1] vs) H := by
  obtain ⟨a, C, ys, rfl, hl, T, no, ha, q⟩ := h
  match ys, hl with
  | [y], _ =>
    have q2 := fun dx h1 h2 => q dx h1 h2
    refine ⟨_, rfl, a, C, [.str m], rfl, by simp, T, ha, ?_⟩
    refine ⟨_, rfl, _, rfl, a, C, rfl, T, no f1 (by simp), .inl ⟨ha, fun dx h1 h2 => ?_⟩⟩
    exact q2 dx h1 h2
def tMkX (C : Addr) (fs : List Str) (ta : TA) : L2.St → Hp → XK → Prop := fun σ H Q => ta σ H fun vs H1 => vs.length = fs.length ∧ fs.length ≤ 100 ∧ ∀ dx, H1 dx = none → Q (.ref C) (some dx) (upd H1 dx (.xd (flds fs vs)))
theorem xd_upd {H1 : Hp} {a dx C : Addr} {fs : List (Str × V)} {d : Option Addr} (ha : H1 a = none) (hd : dx ≠ a) : upd (del (upd (upd (upd H1 a (exo a C d)) dx (exd dx fs)) a (exo a C (some dx))) a) dx (.xd fs) = upd H1 dx (.xd fs) := by
  funext b
  by_cases hb : b = dx
  · rw [hb, upd_same, upd_same]
  · rw [upd_ne hb, upd_ne hb]
    by_cases hb2 : b = a
    · rw [hb2, del_same, ha]
    · rw [del_ne hb2, upd_ne hb2, upd_ne hb, upd_ne hb2]
section
variable {X : Cx} {e : Expr} {es : List Expr} {ta : TA} {p pos : Pos} {x : Str}
theorem pmk_x {C fI : Addr} {k : Nat} {fd : FuncData} {ps fs : List Str} (M : XcK X.K C fI fs) (F1 : FnG X.prog X.w X.K X.mg X.base k fI fd ps (spXI X.K fs)) (hgu : X.A.guards = some []) (hr : Room (k + 1) X.A) (hb : Binds X.K fd ps []) (hg : Gl X x) (hm : X.mg x = some (.ref C)) (ha : PA X (e :: es) ta)
    (hdb : (x == ("__debug__" : Str)) = false := by decide) (he : starEach (e :: es) X.env = (false, eval e X.env) :: starEach es X.env := by rfl) (hpl : (backTo pos (starEach es X.env)).any (·.1) = false := by rfl) :
    PMk X (.Call (.Name x p) (e :: es) [] pos) (tMkX C fs ta) := by
  intro pins s σ H Q I h
  have T := M.ox
  obtain ⟨nm, q, N, bs, bm, sn, sub, ab, col, dd, k0, k1, k2, k3, k5, hC, hbm⟩ := T.cls
  refine wpAny_Call_Name_kw (ld_glob I hg hm ?_ hdb)
  refine PySem.W.callWith_K (h₀ := X.base) I.ok.mod.kin T.kC (thn (ha.run pos pins s σ H _ I h) fun us s1 ⟨vs, H1, I1, r1, hz, hz2, q1⟩ => ⟨I1.kIn, ?_⟩) he hpl
  show wpAny _ _ (call (.ref C) us) _ _ _
  obtain ⟨hp, g, dr, tk, os⟩ := s1
  have hsz : hp.objs.size ≤ hp.objs.size + 1 := Nat.le_succ _
  have hn : H1 (hp.objs.size + 1) = none := I1.hok.fresh hsz
  have kk : ∀ b o, hp.get? b = some o → ((hp.push (PySem.W.kdv_tup us)).push (PySem.HandSPX.excO C hp.objs.size)).get? b = some o := fun b o e => Heap.get?_push_of_some _ (Heap.get?_push_of_some _ e)
  have hget : ((hp.push (PySem.W.kdv_tup us)).push (PySem.HandSPX.excO C hp.objs.size)).get? (hp.objs.size + 1) = some (PySem.HandSPX.excO C hp.objs.size) := by heap_get
  have I2 : Inv X pins σ (upd H1 (hp.objs.size + 1) (exo (hp.objs.size + 1) C none)) ⟨(hp.push (PySem.W.kdv_tup us)).push (PySem.HandSPX.excO C hp.objs.size), g, dr, tk, os⟩ :=
    I1.laid (t' := tk) (a := hp.objs.size + 1) (o := exo (hp.objs.size + 1) C none) (h' := (hp.push (PySem.W.kdv_tup us)).push (PySem.HandSPX.excO C hp.objs.size)) kk hsz (exo_ok hget)
  have hq : spXI X.K fs (V.ref (hp.objs.size + 1) :: vs) (upd H1 (hp.objs.size + 1) (exo (hp.objs.size + 1) C none)) (fun v H2 => v = .non ∧ ∃ (d : Addr) (fl : List (Str × V)), H2 (hp.objs.size + 1) = some (exo (hp.objs.size + 1) C (some d)) ∧ H2 d = some (exd d fl) ∧ H1 d = none ∧ Q (.ref C) (some d) (upd (del H2 (hp.objs.size + 1)) d (.xd fl))) (fun _ _ _ => False) := by
    refine ⟨_, C, vs, rfl, hz, T, M.no, upd_same, fun dx h1 h2 => ⟨rfl, dx, flds fs vs, upd_same, by rw [upd_ne h2]; exact upd_same, ?_, ?_⟩⟩
    · rw [upd_ne h2] at h1; exact h1
    · rw [xd_upd hn h2]
      exact q1 dx (by rw [upd_ne h2] at h1; exact h1)
  have r2 : Vals (V.ref (hp.objs.size + 1) :: vs) (Value.ref (hp.objs.size + 1) :: us) := .cons rfl r1
  have hl : (Value.ref (hp.objs.size + 1) :: us).length = ps.length := by
    have e := r2.length
    rw [F1.len _ _ _ _ hq] at e
    exact e.symm
  have hus : us.length ≤ sizeLine := by
    rw [← Paired.length r1, sizeLine_eq]
    omega
  have hb2 := hb ⟨(hp.push (PySem.W.kdv_tup us)).push (PySem.HandSPX.excO C hp.objs.size), g, dr, tk, os⟩ (Value.ref (hp.objs.size + 1) :: us) I2.kIn (by rw [List.append_nil]; exact hl)
  rw [List.append_nil] at hb2
  refine wpAny_call (PySem.HandSPX.call_own F.excBase_ValueError (fun Y => PySem.HandSPX.refsVE_contains Y bm hbm) (I1.kIn _ _ hC) (PySem.W.looks_findIn I1.kIn M.iC) (fun self => PySem.W.bind_fn I1.kIn self M.tI) hus
    (codeAny_mono (F1.go _ (under_guards.trans hgu) (hr.make C us []) X.stack _ _ ⟨Value.ref (hp.objs.size + 1) :: us, []⟩ (Value.ref (hp.objs.size + 1) :: us) _ _ (fun _ _ _ => False) (I2.env0.make C us []) hb2 r2 hq) fun r s' hq' => ?_))
  cases r with
  | error er =>
    obtain ⟨_, _, _, _, _, _, _, _, _, _, _, _, z⟩ := hq'
    exact z.elim
  | ok fl =>
    cases fl with
    | ret u =>
      obtain ⟨v, H2, os2, bare2, un2, hok2, rv, ev, d, fs, ea, ed, hd1, q2⟩ := hq'
      subst ev
      obtain ⟨h2, g2, d2, t2, os'⟩ := s'
      exact ⟨rv, mk_end (raises_own T.exC T.tyC) I1 hsz kk un2 hok2 os2 bare2 ea ed hd1 q2⟩
    | next => exact False.elim hq'
    | brk => exact False.elim hq'
    | cont => exact False.elim hq'
end
/-- raise C(..) -/
def mRaise (Wd : Dwx) (n : Str) (fs : List Str) (ma : DTA) : DTS := fun D Γ => ma Γ fun rs Γ1 => ∃ ds, dats rs = some ds ∧ ds.length = fs.length ∧ fs.length ≤ 100 ∧ ds.all scal = true ∧ Wd n (flds fs ds) Γ1
theorem reps_scal {K : Fg} {H H' : Hp} : ∀ {vs : List V} {ds : List D}, Reps K H vs ds → ds.all scal = true → Reps K H' vs ds
  | _, _, .nil, _ => .nil
  | _, _, .cons h t, e => by
    rw [List.all_cons, Bool.and_eq_true] at e
    exact .cons (scal_rep e.1 h) (reps_scal t e.2)
theorem flds_reps {K : Fg} {H : Hp} : ∀ {fs : List Str} {vs : List V} {ds : List D}, Reps K H vs ds → (flds fs vs).map (·.1) = (flds fs ds).map (·.1) ∧ Reps K H ((flds fs vs).map (·.2)) ((flds fs ds).map (·.2))
  | [], vs, ds, h => by simp [flds]; exact .nil
  | f :: fs, _, _, .nil => by simp [flds]; exact .nil
  | f :: fs, _, _, .cons (v := v) (d := d) h t => by
    obtain ⟨h1, h2⟩ := flds_reps (fs := fs) t
    simp only [flds, List.zip_cons_cons, List.reverse_cons, List.map_append, List.map_cons, List.map_nil] at h1 h2 ⊢
    exact ⟨by rw [h1], h2.append (.cons h .nil)⟩
section
variable {X : Cx} {C : Ctx} {W : WX} {Wd : Dwx} {e : Expr} {ta : TA} {ma : DTA} {p pos cpos : Pos} {x : Str}
theorem sim_raise {C0 : Addr} {n : Str} {fs : List Str} (wl : WLink C W Wd) (hn : XNm C.K n C0) (ha : SimA C ta ma) : SimS C (fun _ σ H => tMkX C0 fs ta σ H fun cls d H' => W cls d σ H') (mRaise Wd n fs ma) := fun Γ O σ H D Dd R h L => by
  refine ha Γ O σ H _ _ R h fun rs Γ1 vs H1 R1 p1 e1 q1 => ?_
  obtain ⟨ds, hd, hl, hl2, hs, hw⟩ := q1
  have hr := reps_scal (H' := emH) (dats_ok p1 hd) hs
  refine ⟨by rw [hr.length, hl], hl2, fun dx hx => ?_⟩
  obtain ⟨f1, f2⟩ := flds_reps (fs := fs) hr
  exact wl.go n C0 (some dx) (flds fs ds) Γ1 O σ _ (R1.alloc hx) hn (.inr ⟨dx, _, rfl, R1.fresh0 hx, upd_same, f1, f2⟩) hw
theorem ds_raise {C0 : Addr} {n : Str} {fs : List Str} (hc : X.calm = true) (tk : Takes X W) (wl : WLink C W Wd) (hp : DA X C (e :: es) ta ma → PMk X (.Call (.Name x p) (e :: es) [] cpos) (tMkX C0 fs ta)) (ha : DA X C (e :: es) ta ma) (hn : XNm C.K n C0) :
    DS X C (.Raise (some (.Call (.Name x p) (e :: es) [] cpos)) none pos) (fun _ σ H => tMkX C0 fs ta σ H fun cls d H' => W cls d σ H') (mRaise Wd n fs ma) := ⟨ps_raise hc tk (hp ha), sim_raise wl hn ha.sim⟩
end
/-! ### try .. except C as e -/
/-- which classes an except clause takes -/
def XEx (K : Fg) (C0 : Addr) (tab : List (Str × Bool)) : Prop := ∀ n b, tab.lookup n = some b → ∀ c, XNm K n c → PySem.W.exmOne K (.ref c) (.ref C0) = some b
def xdU (d : Option Addr) (fvs : List (Str × V)) : List (Addr × HO) := match d with
  | some dx => [(dx, HO.xd fvs)]
  | none => []
/-- the suite's context -/
def sctx (C : Ctx) (cls : Value) (n : Str) (d : Option Addr) (fvs : List (Str × V)) : Ctx := { C with U := xdU d fvs ++ C.U, T := (V.int 0, D.xcl cls n) :: C.T }
def mTryAs (i : Nat) (tab : List (Str × Bool)) (mb : Dwx → DTS) (ms : Str → List (Str × D) → Addr → DTS) (Wd : Dwx) : DTS := fun D Γ => mb (fun n fds Γ1 => ∃ b, tab.lookup n = some b ∧
  (b = true → freeB Γ1 i = true ∧ ∀ a, ms n fds a ⟨fun Γ' => freeB Γ' i = true ∧ D.nx (Γ'.set i .no), D.rt, fun Γ' => freeB Γ' i = true ∧ D.bk (Γ'.set i .no), fun Γ' => freeB Γ' i = true ∧ D.ct (Γ'.set i .no)⟩ (Γ1.set i (.sh (.cls a)))) ∧ (b = false → Wd n fds Γ1)) D Γ
def mTry (tab : List (Str × Bool)) (mb : Dwx → DTS) (ms : Str → List (Str × D) → Addr → DTS) (Wd : Dwx) : DTS := fun D Γ => mb (fun n fds Γ1 => ∃ b, tab.lookup n = some b ∧ (b = true → ∀ a, ms n fds a D Γ1) ∧ (b = false → Wd n fds Γ1)) D Γ
section
variable {K : Fg} {H H' : Hp}
/-- the same but for dicts of exceptions -/
def SameX (H H' : Hp) : Prop := ∀ b o, H b = some o → (∀ fv, o ≠ .xd fv) → H' b = some o
theorem SameX.seq (e : SameX H H') {a : Addr} {xs : List V} (h : SqL K H a xs) : SqL K H' a xs := by
  rcases h with (h | ⟨o, h⟩) | h
  · exact .inl (.inl (e _ _ h fun _ z => by cases z))
  · exact .inl (.inr ⟨o, e _ _ h fun _ z => by cases z⟩)
  · exact .inr h
mutual
theorem Rep.monoX (e : SameX H H') : ∀ {v : V} {d : D}, Rep K H v d → Rep K H' v d
  | _, _, .non => .non
  | _, _, .bl b => .bl b
  | _, _, .int i => .int i
  | _, _, .str x => .str x
  | _, _, .cls C => .cls C
  | _, _, .xcl h => .xcl h
  | _, _, .lst h r => .lst (e _ _ h fun _ z => by cases z) (Reps.monoX e r)
  | _, _, .scr h r => .scr (e.seq h) (Reps.monoX e r)
  | _, _, .tup h r => .tup (e _ _ h fun _ z => by cases z) (Reps.monoX e r)
  | _, _, .dic h r => .dic (e _ _ h fun _ z => by cases z) (RepK.monoX e r)
  | _, _, .dit h r => .dit (e _ _ h fun _ z => by cases z) (RepT.monoX e r)
  | _, _, .dkl h r => .dkl (e _ _ h fun _ z => by cases z) (RepK.monoX e r)
  | _, _, .dtl h r => .dtl (e _ _ h fun _ z => by cases z) (RepT.monoX e r)
  | _, _, .pnK h => .pnK (e _ _ h fun _ z => by cases z)
  | _, _, .pnT h => .pnT (e _ _ h fun _ z => by cases z)
  | _, _, .obj h n r => .obj (e _ _ h fun _ z => by cases z) n (Reps.monoX e r)
theorem Reps.monoX (e : SameX H H') : ∀ {vs : List V} {ds : List D}, Reps K H vs ds → Reps K H' vs ds
  | _, _, .nil => .nil
  | _, _, .cons h r => .cons (Rep.monoX e h) (Reps.monoX e r)
theorem RepK.monoX (e : SameX H H') : ∀ {vs : List (Key × V)} {ds : List (Key × D)}, RepK K H vs ds → RepK K H' vs ds
  | _, _, .nil => .nil
  | _, _, .cons h r => .cons (Rep.monoX e h) (RepK.monoX e r)
theorem RepT.monoX (e : SameX H H') : ∀ {vs : List (List Key × V)} {ds : List (List Key × D)}, RepT K H vs ds → RepT K H' vs ds
  | _, _, .nil => .nil
  | _, _, .cons h r => .cons (Rep.monoX e h) (RepT.monoX e r)
end
theorem OwnOk.monoX {o : HO} {d : D} (e : SameX H H') : OwnOk K H o d → OwnOk K H' o d
  | .lst r => .lst (Reps.monoX e r)
  | .dic r => .dic (RepK.monoX e r)
  | .dit r => .dit (RepT.monoX e r)
  | .obj n r => .obj n (Reps.monoX e r)
end
section
variable {C : Ctx} {Γ : Env} {O : List Addr} {σ : L2.St} {H : Hp} {cls : Value} {n : Str} {d : Option Addr} {fvs : List (Str × V)} {fds : List (Str × D)}
/-- into the suite -/
theorem RelO.suite (R : RelO C Γ O σ H) {c : Addr} (hn : XNm C.K n c) (hx : XdAt C H d fds) : ∃ O2 fvs, RelO (sctx C (.ref c) n d fvs) Γ O2 σ H ∧ (d = none → fds = []) ∧ fvs.map (·.1) = fds.map (·.1) ∧ Reps C.K emH (fvs.map (·.2)) (fds.map (·.2)) := by
  have hT : ∀ {O : List Addr}, RelO C Γ O σ H → ∀ q ∈ (V.int 0, D.xcl (.ref c) n) :: C.T, Rep C.K (hide O H) q.1 q.2 := fun R q hq => by
    rcases List.mem_cons.mp hq with e | e
    · subst e; exact .xcl hn
    · exact R.tt q e
  rcases hx with ⟨rfl, rfl⟩ | ⟨dx, fvs, rfl, h0, hd, hm, hr⟩
  · exact ⟨O, [], (R.congrT (hT R)), fun _ => rfl, rfl, .nil⟩
  · have hn : ∀ i, ¬ MutAt Γ σ i dx := fun i ⟨⟨dd, z⟩, e⟩ => by
      rcases z with z | z
      · obtain ⟨l, o, h1, _, _, h4, h5⟩ := R.sl i _ z
        rw [e] at h1; cases h1
        rw [hd] at h4; cases h4
        cases h5
      · obtain ⟨l, o, h1, _, _, h4, h5⟩ := R.sl i _ z
        rw [e] at h1; cases h1
        rw [hd] at h4; cases h4
        cases h5
    have sx : SameX (hide O H) (hide (dx :: O) H) := fun b o e nx => by
      obtain ⟨nO, e⟩ := hide_some e
      rw [hide_out (fun z => (List.mem_cons.mp z).elim (fun z => by rw [z, hd] at e; cases e; exact nx _ rfl) nO)]
      exact e
    refine ⟨dx :: O, fvs, ⟨fun i s es => ?_, R.ds, R.fr, R.mm, R.bb, fun a ha => List.mem_cons_of_mem _ (R.oo a ha), fun a ha => ?_, fun a ha => ?_, R.o0, fun q hq => (hT R q hq).monoX sx, fun q hq => ?_, R.len⟩, fun z => (by cases z), hm, hr⟩
    · have q := R.sl i s es
      cases s with
      | no => trivial
      | sh d => obtain ⟨v, h1, h2⟩ := q; exact ⟨v, h1, h2.monoX sx⟩
      | ow d => obtain ⟨l, u, h1, h2, h3, h4, h5⟩ := q; exact ⟨l, u, h1, List.mem_cons_of_mem _ h2, h3, h4, h5.monoX sx⟩
      | io d => obtain ⟨l, u, h1, h2, h3, h4, h5⟩ := q; exact ⟨l, u, h1, h2, List.mem_cons_of_mem _ h3, h4, h5.monoX sx⟩
      | bo d =>
        obtain ⟨v, h1, h2, h3⟩ := q
        refine ⟨v, h1, h2, ?_⟩
        rcases h3 with h3 | ⟨l, u, h3, h4, h5, h6⟩
        · exact .inl (h3.monoX sx)
        · exact .inr ⟨l, u, h3, h4, h5, h6.monoX sx⟩
    · rcases List.mem_cons.mp ha with z | z
      · rw [z, hd]; intro q; cases q
      · exact R.al a z
    · rcases List.mem_cons.mp ha with z | z
      · exact .inr (z ▸ h0)
      · exact R.ol a z
    · rcases List.mem_cons.mp hq with z | z
      · subst z; exact ⟨hd, List.mem_cons_self, hn⟩
      · obtain ⟨u1, u2, u3⟩ := R.uu q z
        exact ⟨u1, List.mem_cons_of_mem _ u2, u3⟩
/-- out of the suite -/
theorem RelO.unsuite (R : RelO (sctx C cls n d fvs) Γ O σ H) : RelO C Γ O σ H := by
  have R1 : RelO { C with U := xdU d fvs ++ C.U } Γ O σ H := RelO.backT (C := { C with U := xdU d fvs ++ C.U }) R fun q hq => List.mem_cons_of_mem _ hq
  exact R1.backU fun q hq => List.mem_append_right _ hq
theorem ROk.unsuite {v : V} {r : Res} (h : ROk (sctx C cls n d fvs) Γ O σ H v r) : ROk C Γ O σ H v r := by
  cases r with
  | val d => exact ⟨h.1.unsuite, h.2⟩
  | fr d =>
    obtain ⟨h1, p, o, e, h2, h3, h4, h5, h6⟩ := h
    exact ⟨h1.unsuite, p, o, e, h2, h3, h4, h5, h6.unsuite⟩
  | pl i => exact ⟨h.1.unsuite, h.2⟩
  | np a ds => exact ⟨h.1.unsuite, h.2⟩
end
section
variable {X : Cx} {C : Ctx} {i : Nat} {x nm : Str} {C0 : Addr} {tab : List (Str × Bool)} {body suite : List Stmt} {b₀ : Stmt} {np pos pos' : Pos} {tb : WX → TS} {ts : Addr → Value → Option Addr → TS} {mb : Dwx → DTS} {ms : Str → List (Str × D) → Addr → DTS} {Wout : WX} {Wd : Dwx}
/-- some surrounding that takes every exception of the body -/
theorem takes_some (hs : X.stack = X.env :: X.outer) (hf : X.env.frame = some X.env.locals) (W : WX) (pn : List (Addr × Obj)) : ∃ xe, Takes (X.tr pn xe) W ∧ PassesOwn (model X.prog X.w) X.A X.env xe := by
  refine ⟨fun e s₁ => wpAny (model X.prog X.w) X.A (noteFrame e X.env) (fun _ s₂ => wpAny (model X.prog X.w) X.A (setFlight e none) (fun _ _ => True) (fun _ _ => True) s₂) (fun _ _ => True) s₁, fun u s' xx => ?_, PassesOwn.looking⟩
  obtain ⟨a, B, sI, pins', σ', H', cls, d, rfl, J', nb, up, sky, na, os, ag, hw⟩ := xx
  have hfr : X.A.frames = some (X.env :: X.outer) := by rw [← hs]; exact J'.ok.frames
  have sky' : Sky B (X.env :: X.outer) a (Zc cls d) X.env.locals s'.heap := by rw [← hs]; exact sky
  show wpAny (model X.prog X.w) X.A (noteFrame (.ref a) X.env) _ _ _
  exact Sky.land Zc.steady hfr hf sky' fun h3 fl3 up3 => trivial
theorem sim_try_as (hs : X.stack = X.env :: X.outer) (hf : X.env.frame = some X.env.locals) (wl : WLink C Wout Wd) (ex : XEx C.K C0 tab)
    (hb : ∀ (W : WX) (Wd : Dwx) (pn : List (Addr × Obj)) (xe : Value → Shared → Prop), Takes (X.tr pn xe) W → PassesOwn (model X.prog X.w) X.A X.env xe → WLink C W Wd → DSs (X.tr pn xe) C body (tb W) (mb Wd))
    (hsu : ∀ (cls : Value) (d : Option Addr) (a : Addr) (n : Str) (fvs : List (Str × V)) (fds : List (Str × D)), (d = none → fds = []) → fvs.map (·.1) = fds.map (·.1) → Reps C.K emH (fvs.map (·.2)) (fds.map (·.2)) → SimS (sctx C cls n d fvs) (ts a cls d) (ms n fds a)) :
    SimS C (fun D σ H => tb (wAs C.K (.ref C0) i ts Wout D) D σ H) (mTryAs i tab mb ms Wd) := fun Γ O σ H D Dd R h L => by
  obtain ⟨xe, tk, po⟩ := takes_some hs hf (wAs C.K (.ref C0) i ts Wout D) ([] : List (Addr × Obj))
  refine (hb _ _ [] xe tk po (⟨fun n c d fds Γ1 O1 σ1 H1 R1 hn hx hw => ?_⟩)).sim Γ O σ H D Dd R h L
  obtain ⟨b, hb, hy, hno⟩ := hw
  refine ⟨b, ex n b hb c hn, fun e a ha => ?_, fun e => wl.go n c d fds Γ1 O1 σ1 H1 R1 hn hx (hno e)⟩
  obtain ⟨hfree, hy⟩ := hy e
  obtain ⟨O2, fvs, R2, h0, h1, h2⟩ := R1.suite hn hx
  refine hsu (.ref c) d a n fvs fds h0 h1 h2 _ O2 _ H1 _ _ (R2.setSh (freeB_of hfree) (.cls a)) (hy a) ⟨fun Γ' O' σ' H' R' q => ?_, fun r Γ' O' σ' H' v hr q => L.rt r Γ' O' σ' H' v hr.unsuite q, fun Γ' O' σ' H' R' q => ?_, fun Γ' O' σ' H' R' q => ?_⟩
  · exact L.nx _ O' _ H' (R'.unsuite.setNo (freeB_of q.1) none) q.2
  · exact L.bk _ O' _ H' (R'.unsuite.setNo (freeB_of q.1) none) q.2
  · exact L.ct _ O' _ H' (R'.unsuite.setNo (freeB_of q.1) none) q.2
theorem ds_try_as (hs : X.stack = X.env :: X.outer) (hf : X.env.frame = some X.env.locals) (hN : X.N.Nodup) (hi : X.N[i]? = some nm) (hln : X.env.kindOf nm = some .local) (hc : Names X x (.ref C0)) (tk : Takes X Wout) (wl : WLink C Wout Wd)
    (hb : ∀ (W : WX) (Wd : Dwx) (pn : List (Addr × Obj)) (xe : Value → Shared → Prop), Takes (X.tr pn xe) W → PassesOwn (model X.prog X.w) X.A X.env xe → WLink C W Wd → DSs (X.tr pn xe) C body (tb W) (mb Wd))
    (hsu : ∀ (a : Addr) (oe : Obj) (cls : Value) (d : Option Addr) (pn : List (Addr × Obj)) (n : Str) (fvs : List (Str × V)) (fds : List (Str × D)), Zc cls d oe → (∃ vs, oe.data = .fields vs) → (d = none → fds = []) → fvs.map (·.1) = fds.map (·.1) → Reps C.K emH (fvs.map (·.2)) (fds.map (·.2)) → DSs (X.suite a ((a, oe) :: pn)) (sctx C cls n d fvs) (b₀ :: suite) (ts a cls d) (ms n fds a))
    {K0 : Fg} (hK0 : X.K = K0 := by rfl) (hK : K0 = C.K := by rfl) (ex : XEx K0 C0 tab) :
    DS X C (.Try body [.ExceptHandler (some (.Name x np)) (some nm) (b₀ :: suite) pos'] [] [] pos) (fun D σ H => tb (wAs K0 (.ref C0) i ts Wout D) D σ H) (mTryAs i tab mb ms Wd) := by
  subst hK0
  refine ⟨ps_try_as hs hf hN hi hln hc tk (fun W pn xe tk po => (hb W noW pn xe tk po .no).pss) (fun a oe cls d pn hz hfl => (hsu a oe cls d pn Str.empty [] [] hz hfl (fun _ => rfl) rfl .nil).pss), ?_⟩
  rw [hK]
  rw [hK] at ex
  exact sim_try_as hs hf wl ex hb fun cls d a n fvs fds h0 h1 h2 => by
    -- an exception's object of that class and dict
    exact (hsu a { cls := cls, dict := d, data := .fields #[] } cls d [] n fvs fds ⟨rfl, rfl⟩ ⟨_, rfl⟩ h0 h1 h2).sim
end
/-! ### in the suite -/
/-- what the classes must be, so that their instances are asked and read -/
def XIs (K : Fg) (T : Value) (tab : List (Str × Bool)) : Prop := ∀ n b, tab.lookup n = some b → ∀ c, XNm K n c → ExcC K c ∧ PySem.W.kitOne K (.ref c) T = some b
def XFd (K : Fg) (f : Str) (ns : List Str) : Prop := ∀ n, n ∈ ns → ∀ c, XNm K n c → XfC K c ∧ PySem.W.findIn K (.ref c) f = some none
/-- isinstance(e, T), e caught -/
def rIsW (K : Fg) (a : Addr) (cls : Value) (d : Option Addr) : List V → Hp → VK → Prop := fun xs H Q => ∃ (c : V) (cv : Value) (b : Bool) (D0 : Addr), xs = [.ref a, c] ∧ (∀ u, RelV c u → u = cv) ∧ cls = .ref D0 ∧ ExcC K D0 ∧ PySem.W.kitOne K (.ref D0) cv = some b ∧ (∀ dx, d = some dx → ∃ fvs, H dx = some (.xd fvs)) ∧ Q (.bl b) H
theorem call_isW {X : Cx} {a : Addr} {oe : Obj} {cls : Value} {d : Option Addr} {pn : List (Addr × Obj)} (hz : Zc cls d oe) (hf : ∃ vs, oe.data = .fields vs) : CallR (X.suite a ((a, oe) :: pn)) (.builtin "isinstance") (rIsW X.K a cls d) := by
  intro pins s σ H xs us Q I r h
  obtain ⟨c, cv, b, D0, rfl, hcv, hcl, C, e, hd, q⟩ := h
  cases r with
  | cons rx rr =>
    cases rr with
    | cons rt rr =>
      cases rr
      cases rx
      have ec := hcv _ rt
      subst ec
      obtain ⟨hget, _⟩ := I.pin (a, oe) (List.mem_append.mpr (.inl List.mem_cons_self))
      obtain ⟨vs, hv⟩ := hf
      have hcls : (PySem.W.clsIn X.K D0).isSome = true := by
        obtain ⟨cd, hc, _⟩ := PySem.W.any_some C.hd
        rw [hc]; rfl
      cases d with
      | none =>
        have J : PySem.W.InstAt s.heap a oe D0 none := by
          obtain ⟨oc, od, oda, osl⟩ := oe
          obtain ⟨h1, h2⟩ := hz
          dsimp only at h1 h2 hv
          subst h1 h2 hv
          exact ⟨hget, hcl, rfl, trivial⟩
        exact PySem.W.kia_one (PySem.W.kitx_exc hcls C.hg C.hk C.hs C.ha C.hn C.ht C.hm) I.kIn J e (fun z => nomatch z) fun tk => ⟨.bl b, H, I.kept (t' := tk) fun _ _ z => z, rfl, q⟩
      | some dx =>
        obtain ⟨fvs, hx⟩ := hd dx rfl
        have hx2 : ObjOk X.prog X.w H s.heap dx (.xd fvs) := I.hok dx _ hx
        obtain ⟨mA, hns, hr⟩ := hx2
        obtain ⟨od, ho, hl⟩ := lookIn_ns hns
        have J : PySem.W.InstAt s.heap a oe D0 (some od) := ⟨hget, by rw [hz.1]; exact hcl, by unfold PySem.W.notCls; rw [hv] <;> rfl, by rw [hz.2]; exact ho⟩
        exact PySem.W.kia_one (PySem.W.kitx_exc hcls C.hg C.hk C.hs C.ha C.hn C.ht C.hm) I.kIn J e (fun z => nomatch z) fun tk => ⟨.bl b, H, I.kept (t' := tk) fun _ _ z => z, rfl, q⟩
def mXis (n : Str) (a : Addr) (tab : List (Str × Bool)) (mo : DTE) : DTE := fun Γ Q => mo Γ fun r Γ1 => r = .val (.cls a) ∧ ∃ b, tab.lookup n = some b ∧ Q (.val (.bl b)) Γ1
/-- e.f, e caught -/
def tXfW (K : Fg) (a : Addr) (cls : Value) (d : Option Addr) (f : Str) (te : TE) : TE := fun σ H Q => te σ H fun x H1 => x = .ref a ∧ ∃ (C0 dd : Addr) (fs : List (Str × V)) (v : V), cls = .ref C0 ∧ XfC K C0 ∧ PySem.W.findIn K (.ref C0) f = some none ∧ d = some dd ∧ H1 dd = some (.xd fs) ∧ fs.lookup f = some v ∧ Q v H1
theorem pe_xfW {X : Cx} {a : Addr} {oe : Obj} {cls : Value} {d : Option Addr} {pn : List (Addr × Obj)} {e : Expr} {te : TE} {pos : Pos} {n : Str} (hz : Zc cls d oe) (hf : ∃ vs, oe.data = .fields vs) (he : PE (X.suite a ((a, oe) :: pn)) e te) (hb : attributeBase e n X.env (eval e X.env) = eval e X.env := by rfl) :
    PE (X.suite a ((a, oe) :: pn)) (.Attribute e n pos) (tXfW X.K a cls d n te) := by
  refine ⟨fun pins s σ H Q I h => ?_⟩
  refine attr_of hb (thn (he.run pins s σ H _ I h) fun u s1 hh => ?_)
  obtain ⟨x, H1, I1, rx, ex, C, dd, fs, v, ec, T, hno, ed, ea, l, q⟩ := hh
  subst ex
  obtain rfl : u = Value.ref a := rx
  subst ec
  subst ed
  obtain ⟨ha, _⟩ := I1.pin (a, oe) (List.mem_append_left _ List.mem_cons_self)
  obtain ⟨vs, hd⟩ := hf
  have hx : ObjOk X.prog X.w H1 s1.heap dd (.xd fs) := I1.hok dd _ ea
  obtain ⟨mA, hns, hr⟩ := hx
  obtain ⟨od, ho, hl⟩ := lookIn_ns hns
  obtain ⟨u, hu, ru⟩ := L2.RelO.some_of (v := v) (o := mA n) (by rw [← l]; exact hr n)
  have J : PySem.W.InstAt s1.heap a oe C (some od) := ⟨ha, hz.1, by unfold PySem.W.notCls; rw [hd] <;> rfl, by rw [hz.2]; exact ho⟩
  exact PySem.HandSPX.exc_get I1.kIn J T.ga T.gg T.exC (PySem.W.findObj_own T.hdC hno rfl (by rw [hl, hu])) (handed_of ru) ⟨v, H1, I1.tok _, ru, q⟩
def mXf (n : Str) (fds : List (Str × D)) (a : Addr) (f : Str) (ns : List Str) (mo : DTE) : DTE := fun Γ Q => mo Γ fun r Γ1 => r = .val (.cls a) ∧ n ∈ ns ∧ ∃ d, fds.lookup f = some d ∧ Q (.val d) Γ1
theorem lookup_reps {K : Fg} {H : Hp} {f : Str} : ∀ {fvs : List (Str × V)} {fds : List (Str × D)} {d : D}, fvs.map (·.1) = fds.map (·.1) → Reps K H (fvs.map (·.2)) (fds.map (·.2)) → fds.lookup f = some d → ∃ v, fvs.lookup f = some v ∧ Rep K H v d
  | [], [], d, _, _, h => by cases h
  | [], _ :: _, d, h, _, _ => by cases h
  | _ :: _, [], d, h, _, _ => by cases h
  | (g, v) :: fvs, (g', e) :: fds, d, h, r, hl => by
    obtain ⟨rfl, h2⟩ : g = g' ∧ fvs.map (·.1) = fds.map (·.1) := by simpa using h
    cases r with
    | cons r1 r2 =>
      rw [List.lookup_cons] at hl ⊢
      cases hb : f == g with
      | true =>
        rw [hb] at hl
        cases hl
        exact ⟨v, rfl, r1⟩
      | false =>
        rw [hb] at hl
        exact lookup_reps h2 r2 hl
section
variable {X : Cx} {C : Ctx} {cls : Value} {d : Option Addr} {n f : Str} {fvs : List (Str × V)} {fds : List (Str × D)} {a : Addr} {to : TE} {mo : DTE} {Γ : Env} {O : List Addr} {σ : L2.St} {H : Hp}
theorem suite_cls (R : RelO (sctx C cls n d fvs) Γ O σ H) : ∃ c, cls = .ref c ∧ XNm C.K n c := by
  have := R.tt (V.int 0, D.xcl cls n) List.mem_cons_self
  cases this with
  | xcl h => exact ⟨_, rfl, h⟩
theorem suite_xd (R : RelO (sctx C cls n d fvs) Γ O σ H) : ∀ dx, d = some dx → H dx = some (.xd fvs) := fun dx e => by
  subst e
  exact (R.uu (dx, .xd fvs) List.mem_cons_self).1
theorem sim_xis {T : V} {cv : Value} {tab : List (Str × Bool)} (hcv : ∀ u, RelV T u → u = cv) (hx : XIs C.K cv tab) (ho : SimE (sctx C cls n d fvs) to mo) : SimE (sctx C cls n d fvs) (tCB (rIsW C.K a cls d) (tCons to (tCons (tC T) tNil))) (mXis n a tab mo) := fun Γ O σ H Qd Q R h k => by
  refine ho Γ O σ H _ _ R h fun r Γ1 x H1 R1 e1 q1 => ?_
  obtain ⟨rfl, b, hb, q⟩ := q1
  obtain ⟨R1, rr⟩ := R1
  cases rr
  obtain ⟨c, hc, hn⟩ := suite_cls R1
  obtain ⟨x1, x2⟩ := hx n b hb c hn
  exact ⟨T, cv, b, c, rfl, hcv, hc, x1, x2, fun dx e => ⟨fvs, suite_xd R1 dx e⟩, k (.val (.bl b)) Γ1 _ H1 ⟨R1, .bl b⟩ (.val e1.1) q⟩
theorem sim_xf {ns : List Str} (hm : fvs.map (·.1) = fds.map (·.1)) (hr : Reps C.K emH (fvs.map (·.2)) (fds.map (·.2))) (hx : XFd C.K f ns) (hd : d = none → fds = []) (ho : SimE (sctx C cls n d fvs) to mo) : SimE (sctx C cls n d fvs) (tXfW C.K a cls d f to) (mXf n fds a f ns mo) := fun Γ O σ H Qd Q R h k => by
  refine ho Γ O σ H _ _ R h fun r Γ1 x H1 R1 e1 q1 => ?_
  obtain ⟨rfl, hns, dd, hl, q⟩ := q1
  obtain ⟨R1, rr⟩ := R1
  cases rr
  obtain ⟨c, hc, hn⟩ := suite_cls R1
  obtain ⟨x1, x2⟩ := hx n hns c hn
  obtain ⟨v, hv, rv⟩ := lookup_reps hm hr hl
  cases hdd : d with
  | none => rw [hd hdd] at hl; cases hl
  | some dx => exact ⟨rfl, c, dx, fvs, v, hc, x1, x2, rfl, suite_xd R1 dx hdd, hv, k (.val dd) Γ1 v H1 ⟨R1, rv.mono fun _ _ z => by cases z⟩ (.val e1.1) q⟩
end
section
variable {X : Cx} {C : Ctx} {cls : Value} {d : Option Addr} {n f x : Str} {fvs : List (Str × V)} {fds : List (Str × D)} {a : Addr} {oe : Obj} {pn : List (Addr × Obj)} {to : TE} {mo : DTE} {o : Expr} {p pos p2 : Pos}
theorem de_xis {T : V} {cv : Value} {tab : List (Str × Bool)} (hz : Zc cls d oe) (hf : ∃ vs, oe.data = .fields vs) (hg : Gl (X.suite a ((a, oe) :: pn)) "isinstance") (hm : (X.suite a ((a, oe) :: pn)).mg "isinstance" = none) (ho : DE (X.suite a ((a, oe) :: pn)) (sctx C cls n d fvs) o to mo) (hT : PE (X.suite a ((a, oe) :: pn)) (.Name x p2) (tC T)) (hcv : ∀ u, RelV T u → u = cv)
    {K0 : Fg} (hK0 : X.K = K0 := by rfl) (hK : K0 = C.K := by rfl) (hx : XIs K0 cv tab)
    (he : starEach [o, .Name x p2] (X.suite a ((a, oe) :: pn)).env = (false, eval o (X.suite a ((a, oe) :: pn)).env) :: starEach [.Name x p2] (X.suite a ((a, oe) :: pn)).env := by rfl) (he2 : starEach [.Name x p2] (X.suite a ((a, oe) :: pn)).env = (false, eval (.Name x p2) (X.suite a ((a, oe) :: pn)).env) :: starEach [] (X.suite a ((a, oe) :: pn)).env := by rfl) (hpl : (backTo pos (starEach [.Name x p2] (X.suite a ((a, oe) :: pn)).env)).any (·.1) = false := by rfl) :
    DE (X.suite a ((a, oe) :: pn)) (sctx C cls n d fvs) (.Call (.Name "isinstance" p) [o, .Name x p2] [] pos) (tCB (rIsW K0 a cls d) (tCons to (tCons (tC T) tNil))) (mXis n a tab mo) := by
  subst hK0
  exact ⟨pe_callB (call_isW hz hf) hg hm (by decide +kernel) (pa_cons ho.pe (pa_cons hT pa_nil he2) he) (he := he) (hpl := hpl), by rw [hK]; exact sim_xis hcv (hK ▸ hx) ho.sim⟩
theorem de_xf {ns : List Str} (hz : Zc cls d oe) (hf : ∃ vs, oe.data = .fields vs) (hd : d = none → fds = []) (hm : fvs.map (·.1) = fds.map (·.1)) (hr : Reps C.K emH (fvs.map (·.2)) (fds.map (·.2))) (ho : DE (X.suite a ((a, oe) :: pn)) (sctx C cls n d fvs) o to mo)
    {K0 : Fg} (hK0 : X.K = K0 := by rfl) (hK : K0 = C.K := by rfl) (hx : XFd K0 f ns) (hb : attributeBase o f X.env (eval o X.env) = eval o X.env := by rfl) :
    DE (X.suite a ((a, oe) :: pn)) (sctx C cls n d fvs) (.Attribute o f pos) (tXfW K0 a cls d f to) (mXf n fds a f ns mo) := by
  subst hK0
  exact ⟨pe_xfW hz hf ho.pe hb, by rw [hK]; exact sim_xf hm hr (hK ▸ hx) hd ho.sim⟩
end
end DL
/-! the data layer, part 41: exceptions: tables of classes, defaults, steps -/
namespace DL
open PySem PySem.Spec PyProof.Rows L2
/-! ### tables -/
section
variable {K : Fg} {N f : Str} {C C0 : Addr} {T : Value} {b : Bool} {tab : List (Str × Bool)} {ns : List Str}
theorem XNm.inj {c c' : Addr} (h : XNm K N c) (h' : XNm K N c') : c = c' := by
  have e : some (some (Value.ref c)) = some (some (Value.ref c')) := h.symm.trans h'
  exact Value.ref.inj (Option.some.inj (Option.some.inj e))
theorem XEx.nil : XEx K C0 [] := fun _ _ h => by cases h
theorem XEx.cons (hN : XNm K N C) (h1 : PySem.W.exmOne K (.ref C) (.ref C0) = some b) (t : XEx K C0 tab) : XEx K C0 ((N, b) :: tab) := fun n b' h c hc => by
  rw [List.lookup_cons] at h
  cases e : n == N with
  | true =>
    rw [e] at h
    have e : n = N := eq_of_beq e
    subst e
    cases h
    rw [hc.inj hN]; exact h1
  | false => rw [e] at h; exact t n b' h c hc
theorem XIs.nil : XIs K T [] := fun _ _ h => by cases h
theorem XIs.cons (hN : XNm K N C) (hE : ExcC K C) (h1 : PySem.W.kitOne K (.ref C) T = some b) (t : XIs K T tab) : XIs K T ((N, b) :: tab) := fun n b' h c hc => by
  rw [List.lookup_cons] at h
  cases e : n == N with
  | true =>
    rw [e] at h
    have e : n = N := eq_of_beq e
    subst e
    cases h
    rw [hc.inj hN]; exact ⟨hE, h1⟩
  | false => rw [e] at h; exact t n b' h c hc
theorem XFd.nil : XFd K f [] := fun _ h => by cases h
theorem XFd.cons (hN : XNm K N C) (hE : XfC K C) (h1 : PySem.W.findIn K (.ref C) f = some none) (t : XFd K f ns) : XFd K f (N :: ns) := fun n h c hc => by
  rcases List.mem_cons.mp h with e | h
  · subst e
    rw [hc.inj hN]; exact ⟨hE, h1⟩
  · exact t n h c hc
end
/-! ### arguments that are left to their defaults -/
def mSnoc (ma : DTA) (ds : List D) : DTA := fun Γ Q => ma Γ fun rs Γ1 => Q (rs ++ ds.map Res.val) Γ1
theorem Pends.append {K : Fg} {O : List Addr} {σ : L2.St} {H : Hp} : ∀ {vs ws : List V} {rs qs : List Res}, Pends K O σ H vs rs → Pends K O σ H ws qs → Pends K O σ H (vs ++ ws) (rs ++ qs)
  | _, _, _, _, .nil, s => s
  | _, _, _, _, .cons h r, s => .cons h (Pends.append r s)
theorem reps_pends {K : Fg} {O : List Addr} {σ : L2.St} {H : Hp} : ∀ {vs : List V} {ds : List D}, Reps K (hide O H) vs ds → Pends K O σ H vs (ds.map Res.val)
  | _, _, .nil => .nil
  | _, _, .cons h r => .cons h (reps_pends r)
section
variable {C : Ctx} {t : TA} {ma : DTA} {ms : List Md} {sd : DSp} {E : XK} {W : WX} {Wd : Dwx} {dvs : List V} {dds : List D}
def tCallWD (sp : Sp) (dvs : List V) (W : WX) (t : TA) : TE := fun σ H Q => t σ H fun vs H1 => sp (vs ++ dvs) H1 Q (WE W σ)
theorem sim_callWD (wl : WLink C W Wd) (hr : ∀ H, Reps C.K H dvs dds) (ha : SimA C t ma) : SimE C (tCallWD (spD C.K ms sd) dvs W t) (mCallX Wd ms sd (mSnoc ma dds)) := fun Γ O σ H Qd Q R h k => by
  refine ha Γ O σ H _ _ R h fun rs Γ1 vs H1 R1 p1 e1 q1 => ?_
  obtain ⟨ds, hd, hap, hsd⟩ := q1
  refine call_core R1 (p1.append (reps_pends (hr _))) hd hap hsd (fun r Γ' v H' r1 se q => k r Γ' v H' r1 (.after e1 se) q) fun n c d H' O' fds ds' hR hn hx hE => ?_
  obtain ⟨Γ2, hput, hw⟩ := hE
  exact wl.go n c d fds Γ2 O' σ H' (hR Γ2 hput).1 hn (xd_at R1 hx) hw
end
section
variable {X : Cx} {C : Ctx} {W : WX} {Wd : Dwx} {k : Nat} {f : Addr} {fd : FuncData} {ps : List Str} {ms : List Md} {sd : DSp} {x : Str} {p pos : Pos} {e : Expr} {es : List Expr} {t : TA} {ma : DTA} {dvs : List V} {dds : List D} {ds : List Value} {sp : Sp}
theorem run_gWD {pins : List (Addr × Obj)} {σ : L2.St} {H : Hp} {s : Shared} {Q : VK} {us : List Value} {vs : List V} (F : FnG X.prog X.w X.K X.mg X.base k f fd ps sp) (hg : X.A.guards = some []) (hr : Room k X.A) (hb : Binds X.K fd ps ds) (hd : Vals dvs ds) (tk : Takes X W)
    (I : Inv X pins σ H s) (r : Vals vs us) (h : sp (vs ++ dvs) H Q (WE W σ)) : wpAny (model X.prog X.w) X.A (call (.ref f) us) (EP X pins σ Q) X.xe s := by
  have r2 : Vals (vs ++ dvs) (us ++ ds) := r.append hd
  refine wpAny_call (codeAny_mono (F.go X.A hg hr X.stack s H ⟨us, []⟩ (us ++ ds) (vs ++ dvs) Q (WE W σ) I.env0 (hb s us I.kIn (by rw [← r2.length]; exact F.len _ _ _ _ h)) r2 h) fun r s' hq => ?_)
  cases r with
  | error e => exact passAt tk σ pins H s e s' I hq
  | ok fl =>
    cases fl with
    | ret u => exact I.after hq
    | next => exact False.elim hq
    | brk => exact False.elim hq
    | cont => exact False.elim hq
theorem pe_gWD (F : FnG X.prog X.w X.K X.mg X.base k f fd ps sp) (hg : X.A.guards = some []) (hr : Room k X.A) (hgl : Gl X x) (hm : X.mg x = some (.ref f)) (hk : PySem.W.keepIn X.K (.ref f) = true) (hb : Binds X.K fd ps ds) (hd : Vals dvs ds) (tk : Takes X W)
    (ha : PA X (e :: es) t) (hdb : (x == ("__debug__" : Str)) = false := by decide) (he : starEach (e :: es) X.env = (false, eval e X.env) :: starEach es X.env := by rfl) (hpl : (backTo pos (starEach es X.env)).any (·.1) = false := by rfl) : PE X (.Call (.Name x p) (e :: es) [] pos) (tCallWD sp dvs W t) :=
  ⟨fun pins s σ H Q I h => wpAny_Call_Name_kw (ld_glob I hgl hm (PySem.W.callWith_K (h₀ := X.base) I.ok.mod.kin hk (thn (ha.run pos pins s σ H _ I h) fun us s1 ⟨vs, H1, I1, r, q⟩ => ⟨I1.kIn, run_gWD F hg hr hb hd tk I1 r q⟩) he hpl) hdb)⟩
/-- the defaults of a def: values and data -/
structure Dfl (K : Fg) (fd : FuncData) (ps : List Str) (dvs : List V) (dds : List D) : Prop where
  bd : ∃ ds, Vals dvs ds ∧ Binds K fd ps ds
  rp : ∀ H, Reps K H dvs dds
theorem de_callXD (tk : Takes X W) (wl : WLink C W Wd) (F : FnG X.prog X.w X.K X.mg X.base k f fd ps (spD X.K ms sd)) (hg : X.A.guards = some []) (hr : Room k X.A) (hgl : Gl X x) (hm : X.mg x = some (.ref f)) (hk : PySem.W.keepIn X.K (.ref f) = true) (hb : Dfl X.K fd ps dvs dds)
    (ha : DA X C (e :: es) t ma) {K0 : Fg} (hK0 : X.K = K0 := by rfl) (hK : K0 = C.K := by rfl) (hdb : (x == ("__debug__" : Str)) = false := by decide) (he : starEach (e :: es) X.env = (false, eval e X.env) :: starEach es X.env := by rfl) (hpl : (backTo pos (starEach es X.env)).any (·.1) = false := by rfl) :
    DE X C (.Call (.Name x p) (e :: es) [] pos) (tCallWD (spD K0 ms sd) dvs W t) (mCallX Wd ms sd (mSnoc ma dds)) := by
  subst hK0
  obtain ⟨ds, hv, hb2⟩ := hb.bd
  exact ⟨pe_gWD F hg hr hgl hm hk hb2 hv tk ha.pa hdb he hpl, by rw [hK]; exact sim_callWD wl (by rw [← hK]; exact hb.rp) ha.sim⟩
end
/-! ### try .. except C: without a name -/
/-! ### steps -/
section
variable {Γ Γ' Γ1 : Env} {Q : QE} {i : Nat} {d : D} {ma mo : DTE} {mr : DTA} {r : Res} {rs : List Res} {ds : List D} {b : Bool} {Wd : Dwx} {n f : Str} {fs ns : List Str} {fds : List (Str × D)} {nx bk ct : Env → Prop} {rt : Res → Env → Prop} {tab : List (Str × Bool)} {mb : Dwx → DTS} {mz : Str → List (Str × D) → Addr → DTS} {a : Addr}
def xtk (is : List Nat) (Γ : Env) (Wd : Dwx) : EdT := fun n fds ds' => ∃ Γ2, putsD is ds' Γ = some Γ2 ∧ Wd n fds Γ2
def clkX (Wd : Dwx) (ms : List Md) (sd : DSp) (Γ : Env) (rs : List Res) (Q : QE) : Prop := ∃ ds, argsD Γ ms rs = some ds ∧ apartB ms rs = true ∧ sd ds (fun b d ds' => ∃ Γ2, putsD (mPls ms rs) ds' Γ = some Γ2 ∧ Q (if b = true then frOf d else .val d) Γ2) (fun n fds ds' => ∃ Γ2, putsD (mPls ms rs) ds' Γ = some Γ2 ∧ Wd n fds Γ2)
theorem e_CallX {ms : List Md} {sd : DSp} (h : mr Γ fun rs Γ1 => clkX Wd ms sd Γ1 rs Q) : mCallX Wd ms sd mr Γ Q := h
theorem e_callX {ms : List Md} {sd : DSp} {is : List Nat} (h1 : argsD Γ ms rs = some ds) (h2 : apartB ms rs = true) (h3 : mPls ms rs = is) (h : sd ds (ptk is Γ Q) (xtk is Γ Wd)) : clkX Wd ms sd Γ rs Q := ⟨_, h1, h2, by subst h3; exact h⟩
theorem e_xt {is : List Nat} (h1 : putsD is ds Γ = some Γ1) (h2 : Γ1 = Γ') (h : Wd n fds Γ') : xtk is Γ Wd n fds ds := ⟨_, h1, by rw [h2]; exact h⟩
theorem e_Snoc {Q : List Res → Env → Prop} (h : mr Γ fun rs Γ1 => Q (rs ++ ds.map Res.val) Γ1) : mSnoc mr ds Γ Q := h
def rsk (Wd : Dwx) (n : Str) (fs : List Str) (Γ : Env) (rs : List Res) : Prop := ∃ ds, dats rs = some ds ∧ ds.length = fs.length ∧ fs.length ≤ 100 ∧ ds.all scal = true ∧ Wd n (flds fs ds) Γ
theorem s_Raise (h : mr Γ fun rs Γ1 => rsk Wd n fs Γ1 rs) : mRaise Wd n fs mr (.mk nx rt bk ct) Γ := h
theorem s_raise (h1 : dats rs = some ds) (h2 : ds.length = fs.length) (h3 : fs.length ≤ 100) (h4 : ds.all scal = true) (h5 : flds fs ds = fds) (h : Wd n fds Γ) : rsk Wd n fs Γ rs := ⟨_, h1, h2, h3, h4, by rw [h5]; exact h⟩
theorem d_x {ms : List Md} {Ed : EdT} (h1 : iosD ms Γ = ds) (h : Ed n fds ds) : wEnd ms Ed n fds Γ := by subst h1; exact h
def unk (i : Nat) (nx : Env → Prop) : Env → Prop := fun Γ => freeB Γ i = true ∧ nx (Γ.set i .no)
theorem u_nk (h1 : freeB Γ i = true) (h2 : Γ.set i .no = Γ') (h : nx Γ') : unk i nx Γ := ⟨h1, by rw [h2]; exact h⟩
def xck (i : Nat) (tab : List (Str × Bool)) (mz : Str → List (Str × D) → Addr → DTS) (Wd : Dwx) (nx : Env → Prop) (rt : Res → Env → Prop) (bk ct : Env → Prop) : Dwx := fun n fds Γ1 => ∃ b, tab.lookup n = some b ∧
  (b = true → freeB Γ1 i = true ∧ ∀ a, mz n fds a (.mk (unk i nx) rt (unk i bk) (unk i ct)) (Γ1.set i (.sh (.cls a)))) ∧ (b = false → Wd n fds Γ1)
theorem s_TryAs (h : mb (xck i tab mz Wd nx rt bk ct) (.mk nx rt bk ct) Γ) : mTryAs i tab mb mz Wd (.mk nx rt bk ct) Γ := h
theorem x_T (h1 : tab.lookup n = some true) (h2 : freeB Γ i = true) (h : ∀ a, ∀ Γ', Γ.set i (.sh (.cls a)) = Γ' → mz n fds a (.mk (unk i nx) rt (unk i bk) (unk i ct)) Γ') : xck i tab mz Wd nx rt bk ct n fds Γ := ⟨true, h1, fun _ => ⟨h2, fun a => h a _ rfl⟩, fun z => by cases z⟩
theorem x_F (h1 : tab.lookup n = some false) (h : Wd n fds Γ) : xck i tab mz Wd nx rt bk ct n fds Γ := ⟨false, h1, (fun z => by cases z), fun _ => h⟩
def yck (tab : List (Str × Bool)) (mz : Str → List (Str × D) → Addr → DTS) (Wd : Dwx) (nx : Env → Prop) (rt : Res → Env → Prop) (bk ct : Env → Prop) : Dwx := fun n fds Γ1 => ∃ b, tab.lookup n = some b ∧ (b = true → ∀ a, mz n fds a (.mk nx rt bk ct) Γ1) ∧ (b = false → Wd n fds Γ1)
theorem s_Try (h : mb (yck tab mz Wd nx rt bk ct) (.mk nx rt bk ct) Γ) : mTry tab mb mz Wd (.mk nx rt bk ct) Γ := h
theorem y_T (h1 : tab.lookup n = some true) (h : ∀ a, mz n fds a (.mk nx rt bk ct) Γ) : yck tab mz Wd nx rt bk ct n fds Γ := ⟨true, h1, fun _ => h, fun z => by cases z⟩
theorem y_F (h1 : tab.lookup n = some false) (h : Wd n fds Γ) : yck tab mz Wd nx rt bk ct n fds Γ := ⟨false, h1, (fun z => by cases z), fun _ => h⟩
def xik (n : Str) (a : Addr) (tab : List (Str × Bool)) (r : Res) (Γ1 : Env) (Q : QE) : Prop := r = .val (.cls a) ∧ ∃ b, tab.lookup n = some b ∧ Q (.val (.bl b)) Γ1
theorem e_Xis (h : mo Γ fun r Γ1 => xik n a tab r Γ1 Q) : mXis n a tab mo Γ Q := h
theorem e_xis (h1 : tab.lookup n = some b) (h : Q (.val (.bl b)) Γ) : xik n a tab (.val (.cls a)) Γ Q := ⟨rfl, _, h1, h⟩
def xfk (n : Str) (fds : List (Str × D)) (a : Addr) (f : Str) (ns : List Str) (r : Res) (Γ1 : Env) (Q : QE) : Prop := r = .val (.cls a) ∧ n ∈ ns ∧ ∃ d, fds.lookup f = some d ∧ Q (.val d) Γ1
theorem e_Xf (h : mo Γ fun r Γ1 => xfk n fds a f ns r Γ1 Q) : mXf n fds a f ns mo Γ Q := h
theorem e_xf (h1 : n ∈ ns) (h2 : fds.lookup f = some d) (h : Q (.val d) Γ) : xfk n fds a f ns (.val (.cls a)) Γ Q := ⟨rfl, h1, _, h2, h⟩
end
end DL
/-! the data layer, part 42: a for over a generator: the generator's frame, woken -/
namespace DL
open PySem PySem.Spec PyProof.Rows L2
/-! ### a heap cut short -/
def low (H : Hp) (L : Nat) : Hp := fun b => if b < L then H b else none
/-! ### the generator's frame -/
/-! ### a name is stored, the generators stay -/
end DL
/-! the data layer, part 43: a for in a generator's body -/
namespace DL
open PySem PySem.Spec PyProof.Rows L2
end DL
/-! the data layer, part 44: a generator's for, yielding a name at each turn, woken by a for -/
namespace DL
open PySem PySem.Spec PyProof.Rows L2 GenW
/-- a generator over a list and who drives it (X: the driver; pc: its pins; L: the generator's frame; a: its object; jn: the driver's name for what was yielded, jl: its loop's name) -/
structure GD where
  X : Cx
  pc : List (Addr × Obj)
  N : List Str
  qual : Str
  scope : Scope
  f : Addr
  cd : Value
  L : Nat
  a : Addr
  go : Obj
  g : Nat
  tg : Expr
  S1 : Stmt
  nm : Str
  np : Pos
  yp : Pos
  yq : Pos
  al : Addr
  xs : List V
  H1 : Hp
  σ1 : L2.St
  jn : Nat
  jl : Nat
  dat : Nat → D
  ig : Nat
  inw : Nat
  O : List Addr
def GD.env (G : GD) : PySem.Env := envOfC G.qual G.scope G.L G.f G.cd
def GD.body (G : GD) : List Stmt := [G.S1, .Expr (.Yield (some (.Name G.nm G.np)) G.yp) G.yq]
def GD.agree (G : GD) (σ : L2.St) : Prop := ∀ i, i ≠ G.jn → i ≠ G.jl → σ[i]? = G.σ1[i]?
/-- the end -/
def GD.F (G : GD) : Nat → Shared → Shared → Prop := fun _ _ s => ∃ (σ : L2.St) (H : Hp) (x : V), Inv G.X G.pc σ H s ∧ G.agree σ ∧ (∀ b o, G.H1 b = some o → H b = some o) ∧ σ[G.jn]? = some (some x) ∧ Rep G.X.K (hide G.O H) x (G.dat G.xs.length)
end DL
/-! the data layer, part 45: the generator's loop -/
namespace DL
open PySem PySem.Spec PyProof.Rows L2 GenW
end DL
/-! the data layer, part 46: a generator is made and first woken -/
namespace DL
open PySem PySem.Spec PyProof.Rows L2 GenW
end DL
/-! the data layer, part 47: for name in generator(a, b): other = name -/
namespace DL
open PySem PySem.Spec PyProof.Rows L2 GenW
theorem Inv.gens {X : Cx} {pins : List (Addr × Obj)} {σ : L2.St} {H : Hp} {s : Shared} {g : Nat} {gs : GenState} (I : Inv X pins σ H s) (hb : gs.bare = true) : Inv X pins σ H (s.setGen g gs) :=
  ⟨I.ok, I.os, allBare_setGen I.bare hb, I.base, I.loc, I.cell, I.free, I.freeC, I.pin, I.hok, I.len⟩
end DL
/-! the data layer, part 48: a for over a generator, over data -/
namespace DL
open PySem PySem.Spec PyProof.Rows L2 GenW
end DL
/-! the data layer, part 49: sum(range(..)) -/
namespace DL
open PySem PySem.Spec PyProof.Rows L2
section
variable {X : Cx} {C : Ctx} {e : Expr} {te : L2.St → Hp → (Int → Int → Hp → Prop) → Prop} {mg : Env → (Int → Int → Env → Prop) → Prop}
def rgSum (a b : Int) : Int := ((List.range (b - a).toNat).map fun i => a + ((i : Nat) : Int)).sum
def mSumRg (mg : Env → (Int → Int → Env → Prop) → Prop) : DTE := fun Γ Q => mg Γ fun a b Γ1 => RgOk a b ∧ Q (.val (.int (rgSum a b))) Γ1
def srgk (a b : Int) (Γ1 : Env) (Q : QE) : Prop := RgOk a b ∧ Q (.val (.int (rgSum a b))) Γ1
theorem e_SRg {Γ : Env} {Q : QE} (h : mg Γ fun a b Γ1 => srgk a b Γ1 Q) : mSumRg mg Γ Q := h
theorem e_srg {Γ : Env} {Q : QE} {a b : Int} (h1 : RgOk a b) (h : Q (.val (.int (rgSum a b))) Γ) : srgk a b Γ Q := ⟨h1, h⟩
end
end DL
/-! the data layer, part 50: the empty dict -/
namespace DL
open PySem PySem.Spec PyProof.Rows L2
def mDict0 : DTE := fun Γ Q => Q (.fr (.dic [])) Γ
theorem e_Dict0 {Γ : Env} {Q : QE} (h : Q (.fr (.dic [])) Γ) : mDict0 Γ Q := h
theorem i_repr0 {Q : Res → Prop} (h : Q (.val (.str (toPy (.dic [])).shown))) : reprD [.dic []] Q := ⟨.inl rfl, h⟩
end DL
/-! the data layer, part 51: loops and comprehensions over a written list, one turn at a time -/
namespace DL
open PySem L2
/-! a, b, .. = a list -/
def mgUnl (n : Nat) (ms : DTGs) : DTG := fun d Γ Q => ∃ ds, d = .lst ds ∧ ds.length = n ∧ ms ds Γ Q
theorem g_unl {n : Nat} {ms : DTGs} {ds : List D} {Γ : Env} {nx : Env → Prop} (h1 : ds.length = n) (h : ms ds Γ nx) : mgUnl n ms (.lst ds) Γ nx := ⟨_, rfl, h1, h⟩
end DL
/-! the data layer, part 52: + by the class's own __add__ -/
namespace DL
open PySem PySem.Spec PyProof.Rows L2
/-- the two sides -/
def mPairO (C : Addr) (ma mb : DTE) : DTA := fun Γ Q => ma Γ fun r Γ1 => mb Γ1 fun r2 Γ2 => (∃ ns ds ns' ds', dat r = some (.obj C ns ds) ∧ dat r2 = some (.obj C ns' ds')) ∧ Q [r, r2] Γ2
def pok (C : Addr) (r r2 : Res) (Γ : Env) (Q : List Res → Env → Prop) : Prop := (∃ ns ds ns' ds', dat r = some (.obj C ns ds) ∧ dat r2 = some (.obj C ns' ds')) ∧ Q [r, r2] Γ
theorem e_PairO {C : Addr} {ma mb : DTE} {Γ : Env} {Q : List Res → Env → Prop} (h : ma Γ fun r Γ1 => mb Γ1 fun r2 Γ2 => pok C r r2 Γ2 Q) : mPairO C ma mb Γ Q := h
theorem e_pairO {C : Addr} {r r2 : Res} {Γ : Env} {Q : List Res → Env → Prop} {ns ns' : List Str} {ds ds' : List D} (h1 : dat r = some (.obj C ns ds)) (h2 : dat r2 = some (.obj C ns' ds')) (h : Q [r, r2] Γ) : pok C r r2 Γ Q := ⟨⟨_, _, _, _, h1, h2⟩, h⟩
end DL
/-! the data layer, part 53: joins after a branch; small tools -/
namespace DL
open PySem PySem.Spec PyProof.Rows L2
section
variable {Γ : Env} {Q : QE} {b q : Bool} {mb ma : DTE}
/-- after an if: one goal -/
theorem s_join {c : Bool} {ma mb : DTS} {nx ct bk : Env → Prop} {rt : Res → Env → Prop} (P : Env → Prop) (h1 : c = true → ∀ N : Env → Prop, (∀ Γ', P Γ' → N Γ') → ma (.mk N rt bk ct) Γ)
    (h2 : c = false → ∀ N : Env → Prop, (∀ Γ', P Γ' → N Γ') → mb (.mk N rt bk ct) Γ) (h : ∀ Γ', P Γ' → nx Γ') : if c = true then ma (.mk nx rt bk ct) Γ else mb (.mk nx rt bk ct) Γ := by
  cases c with
  | true => exact h1 rfl nx h
  | false => exact h2 rfl nx h
end
end DL
namespace DL
/-- one of two, by a truth -/
theorem i_ixB {a b : Int} {c : Bool} {Q : Res → Prop} (h : ∀ x : Int, (x = a ∧ c = false ∨ x = b ∧ c = true) → Q (.val (.int x))) : ixD (.lst [.int a, .int b]) (.int (if c = true then 1 else 0)) Q := by
  refine i_ix (d := .int (if c = true then b else a)) ?_ (h _ ?_)
  · cases c <;> rfl
  · cases c
    · exact .inl ⟨rfl, rfl⟩
    · exact .inr ⟨rfl, rfl⟩
theorem i_ix2 {a b i : Int} {Q : Res → Prop} (h0 : 0 ≤ i) (h1 : i < 2) (h : ∀ x : Int, (x = a ∧ i = 0 ∨ x = b ∧ i = 1) → Q (.val (.int x))) : ixD (.lst [.int a, .int b]) (.int i) Q := by
  rcases (show i = 0 ∨ i = 1 by omega) with rfl | rfl
  · exact i_ix (d := .int a) rfl (h _ (.inl ⟨rfl, rfl⟩))
  · exact i_ix (d := .int b) rfl (h _ (.inr ⟨rfl, rfl⟩))
end DL
/-! the data layer, part 54: equality of trees of numbers -/
namespace DL
open PySem PySem.Spec PyProof.Rows L2
end DL
/-! the data layer, part 55: x[a:c] = a list, x a place -/
namespace DL
open PySem PySem.Spec PyProof.Rows L2
section
variable {X : Cx} {C : Ctx} {pos p2 : Pos} {o lo hi : Expr} {to tl th : TE} {mo ml mh : DTE}
def mgSlc (mo ml mh : DTE) : DTG := fun d Γ Q => mo Γ fun ro Γ1 => ml Γ1 fun rl Γ2 => mh Γ2 fun rh Γ3 => ∃ i xs ys a c, ro = .pl i ∧ cont Γ3[i]? = some (.lst xs) ∧ d = .lst ys ∧ rl = .val (.int a) ∧ rh = .val (.int c) ∧ 0 ≤ a ∧ a ≤ c ∧ c ≤ xs.length ∧ xs.length + ys.length ≤ 100000 ∧ ∃ Γ4, setC Γ3 i (.lst (xs.take a.toNat ++ ys ++ xs.drop c.toNat)) = some Γ4 ∧ Q Γ4
end
def slck (d : D) (ro rl rh : Res) (Γ : Env) (Q : Env → Prop) : Prop := ∃ i xs ys a c, ro = .pl i ∧ cont Γ[i]? = some (.lst xs) ∧ d = .lst ys ∧ rl = .val (.int a) ∧ rh = .val (.int c) ∧ 0 ≤ a ∧ a ≤ c ∧ c ≤ xs.length ∧ xs.length + ys.length ≤ 100000 ∧ ∃ Γ4, setC Γ i (.lst (xs.take a.toNat ++ ys ++ xs.drop c.toNat)) = some Γ4 ∧ Q Γ4
theorem g_Slc {mo ml mh : DTE} {d : D} {Γ : Env} {Q : Env → Prop} (h : mo Γ fun ro Γ1 => ml Γ1 fun rl Γ2 => mh Γ2 fun rh Γ3 => slck d ro rl rh Γ3 Q) : mgSlc mo ml mh d Γ Q := h
end DL
/-! the data layer, part 56: small tools -/
namespace DL
open PySem PySem.Spec PyProof.Rows L2
end DL
/-! the data layer, part 57: dicts -/
namespace DL
open PySem PySem.Spec PyProof.Rows L2
def keyO : D → Option L2.Key
  | .int i => some (.inl i)
  | .str s => some (.inr s)
  | _ => none
def keyD : L2.Key → D
  | .inl i => .int i
  | .inr s => .str s
def keysO : List D → Option (List L2.Key)
  | [] => some []
  | d :: ds => match keyO d, keysO ds with
    | some k, some ks => some (k :: ks)
    | _, _ => none
section
variable {κ : Type} [DecidableEq κ]
def lookE (kvs : List (κ × D)) (k : κ) : Option D := (kvs.find? fun kv => decide (kv.1 = k)).map (·.2)
def putE (kvs : List (κ × D)) (k : κ) (v : D) : List (κ × D) := if (kvs.any fun kv => decide (kv.1 = k)) = true then kvs.map (fun kv => if kv.1 = k then (kv.1, v) else kv) else kvs ++ [(k, v)]
end
/-- what stands at a key: none: no such key; outer none: not a dict, not a key -/
def lookD : D → D → Option (Option D)
  | .dic kvs, k => (keyO k).map (lookE kvs)
  | .dkl kvs, k => (keyO k).map (lookE kvs)
  | .dit kvs, .tup ds => (keysO ds).map (lookE kvs)
  | .dtl kvs, .tup ds => (keysO ds).map (lookE kvs)
  | _, _ => none
def isDic : D → Bool
  | .dic _ => true
  | .dkl _ => true
  | .dit _ => true
  | .dtl _ => true
  | _ => false
/-- d[k] = v -/
def putD : D → D → D → Option D
  | .dic kvs, k, v => (keyO k).bind fun k => if kvs.length < 100000 then some (.dic (putE kvs k v)) else none
  | .dit kvs, .tup ds, v => (keysO ds).bind fun k => if kvs.length < 100000 then some (.dit (putE kvs k v)) else none
  | _, _, _ => none
section
variable {K : Fg} {H : Hp} {O : List Addr}
theorem RepK.len : ∀ {kvs : List (L2.Key × V)} {dks : List (L2.Key × D)}, RepK K H kvs dks → kvs.length = dks.length
  | _, _, .nil => rfl
  | _, _, .cons _ t => by rw [List.length_cons, List.length_cons, RepK.len t]
theorem RepT.len : ∀ {kvs : List (List L2.Key × V)} {dks : List (List L2.Key × D)}, RepT K H kvs dks → kvs.length = dks.length
  | _, _, .nil => rfl
  | _, _, .cons _ t => by rw [List.length_cons, List.length_cons, RepT.len t]
theorem RepK.any {k : L2.Key} : ∀ {kvs : List (L2.Key × V)} {dks : List (L2.Key × D)}, RepK K H kvs dks → (kvs.any fun kv => decide (kv.1 = k)) = dks.any fun kv => decide (kv.1 = k)
  | _, _, .nil => rfl
  | _, _, .cons h t => by rw [List.any_cons, List.any_cons, RepK.any t]
theorem RepT.any {k : List L2.Key} : ∀ {kvs : List (List L2.Key × V)} {dks : List (List L2.Key × D)}, RepT K H kvs dks → (kvs.any fun kv => decide (kv.1 = k)) = dks.any fun kv => decide (kv.1 = k)
  | _, _, .nil => rfl
  | _, _, .cons h t => by rw [List.any_cons, List.any_cons, RepT.any t]
end
/-! ### d[k], k in d, d.get(k, x) -/
/-- d.get(k, x) -/
def mDGet2 (mo mk mx : DTE) : DTE := fun Γ Q => mo Γ fun ro Γ1 => (∃ c, rd Γ1 ro = some c ∧ isDic c = true) ∧ mk Γ1 fun rk Γ2 => mx Γ2 fun rx Γ3 => ∃ c k o dx, rd Γ3 ro = some c ∧ rd Γ3 rk = some k ∧ lookD c k = some o ∧ dat rx = some dx ∧ Q (.val (o.getD dx)) Γ3
/-! ### d[k] = v -/
def mDPut (mo mi mv : DTE) : DTS := fun De Γ => mv Γ fun rv Γ1 => mo Γ1 fun ro Γ2 => mi Γ2 fun ri Γ3 => ∃ i c k dv c', ro = .pl i ∧ mcont Γ3[i]? = some c ∧ rd Γ3 ri = some k ∧ dat rv = some dv ∧ putD c k dv = some c' ∧ ∃ Γ4, setC Γ3 i c' = some Γ4 ∧ De.nx Γ4
/-! ### displays -/
def mDict0T : DTE := fun Γ Q => Q (.fr (.dit [])) Γ
/-- {k: v} -/
def mDict1 (mk mv : DTE) : DTE := fun Γ Q => mk Γ fun rk Γ1 => mv Γ1 fun rv Γ2 => ∃ kd k dv, rd Γ2 rk = some kd ∧ keyO kd = some k ∧ dat rv = some dv ∧ Q (.fr (.dic [(k, dv)])) Γ2
/-! ### a dict that is not changed any more: locked -/
def lockD : D → Option D
  | .dic kvs => some (.dkl kvs)
  | .dit kvs => some (.dtl kvs)
  | _ => none
/-- a new dict, from now on shared -/
def mLock (m : DTE) : DTE := fun Γ Q => m Γ fun r Γ1 => ∃ d d', r = .fr d ∧ lockD d = some d' ∧ Q (.val d') Γ1
/-- an own dict is not changed any more -/
def mFrzL (i : Nat) (m : DTS) : DTS := fun De Γ => ∃ d d', Γ[i]? = some (.ow d) ∧ lockD d = some d' ∧ m De (Γ.set i (.sh d'))
end DL
/-! the data layer, part 58: walks over dicts; the evaluator's lemmas for dicts -/
namespace DL
open PySem PySem.Spec PyProof.Rows L2
def itemD (p : L2.Key × D) : D := .tup [keyD p.1, p.2]
def mKeysW (m : DTE) : DTI := fun Γ Q => m Γ fun r Γ1 => ∃ kvs, r = .val (.dkl kvs) ∧ ∀ o vs, Q (.v2 (.pnK o vs) (.dkl kvs)) (kvs.map fun p => keyD p.1) Γ1
def mItemsW (m : DTE) : DTI := fun Γ Q => m Γ fun r Γ1 => ∃ kvs, r = .val (.dkl kvs) ∧ ∀ o vs, Q (.v2 (.pnK o vs) (.dkl kvs)) (kvs.map itemD) Γ1
def mValsW (m : DTE) : DTI := fun Γ Q => m Γ fun r Γ1 => ∃ kvs, r = .val (.dkl kvs) ∧ ∀ o vs, Q (.v2 (.pnK o vs) (.dkl kvs)) (kvs.map (·.2)) Γ1
/-! ### the evaluator -/
section
variable {Γ Γ1 Γ2 : Env} {Q : QE} {mo mi mx : DTE} {m : DTS} {d d' : D} {i : Nat} {nx : Env → Prop}
def kwk (f : L2.Key × D → D) (r : Res) (Γ : Env) (Q : Src → List D → Env → Prop) : Prop := ∃ kvs, r = .val (.dkl kvs) ∧ ∀ o vs, Q (.v2 (.pnK o vs) (.dkl kvs)) (kvs.map f) Γ
theorem w_KeysW {Q : Src → List D → Env → Prop} (h : mo Γ fun r Γ1 => kwk (fun p => keyD p.1) r Γ1 Q) : mKeysW mo Γ Q := h
theorem w_ItemsW {Q : Src → List D → Env → Prop} (h : mo Γ fun r Γ1 => kwk itemD r Γ1 Q) : mItemsW mo Γ Q := h
theorem w_ValsW {Q : Src → List D → Env → Prop} (h : mo Γ fun r Γ1 => kwk (·.2) r Γ1 Q) : mValsW mo Γ Q := h
theorem w_kw {f : L2.Key × D → D} {Q : Src → List D → Env → Prop} {kvs : List (L2.Key × D)} (h : ∀ o vs, Q (.v2 (.pnK o vs) (.dkl kvs)) (kvs.map f) Γ) : kwk f (.val (.dkl kvs)) Γ Q := ⟨kvs, rfl, h⟩
def g2b (ro rk rx : Res) (Γ : Env) (Q : QE) : Prop := ∃ c k o dx, rd Γ ro = some c ∧ rd Γ rk = some k ∧ lookD c k = some o ∧ dat rx = some dx ∧ Q (.val (o.getD dx)) Γ
def g2a (ro : Res) (mi mx : DTE) (Γ : Env) (Q : QE) : Prop := (∃ c, rd Γ ro = some c ∧ isDic c = true) ∧ mi Γ fun rk Γ2 => mx Γ2 fun rx Γ3 => g2b ro rk rx Γ3 Q
theorem e_DGet2 (h : mo Γ fun ro Γ1 => g2a ro mi mx Γ1 Q) : mDGet2 mo mi mx Γ Q := h
theorem e_g2a {ro : Res} {c : D} (h1 : rd Γ ro = some c) (h2 : isDic c = true) (h : mi Γ fun rk Γ2 => mx Γ2 fun rx Γ3 => g2b ro rk rx Γ3 Q) : g2a ro mi mx Γ Q := ⟨⟨c, h1, h2⟩, h⟩
def dpk (rv ro ri : Res) (Γ : Env) (nx : Env → Prop) : Prop := ∃ i c k dv c', ro = .pl i ∧ mcont Γ[i]? = some c ∧ rd Γ ri = some k ∧ dat rv = some dv ∧ putD c k dv = some c' ∧ ∃ Γ4, setC Γ i c' = some Γ4 ∧ nx Γ4
theorem s_DPut {D0 : DEnds} {mv : DTE} (h : mv Γ fun rv Γ1 => mo Γ1 fun ro Γ2 => mi Γ2 fun ri Γ3 => dpk rv ro ri Γ3 D0.nx) : mDPut mo mi mv D0 Γ := h
def lkk (r : Res) (Γ : Env) (Q : QE) : Prop := ∃ d d', r = .fr d ∧ lockD d = some d' ∧ Q (.val d') Γ
theorem e_Lock {m : DTE} (h : m Γ fun r Γ1 => lkk r Γ1 Q) : mLock m Γ Q := h
theorem e_lkK {kvs : List (L2.Key × D)} (h : Q (.val (.dkl kvs)) Γ) : lkk (.fr (.dic kvs)) Γ Q := ⟨_, _, rfl, rfl, h⟩
theorem e_lkT {kvs : List (List L2.Key × D)} (h : Q (.val (.dtl kvs)) Γ) : lkk (.fr (.dit kvs)) Γ Q := ⟨_, _, rfl, rfl, h⟩
theorem s_frzL {D0 : DEnds} (h1 : Γ[i]? = some (.ow d)) (h2 : lockD d = some d') (h3 : Γ.set i (.sh d') = Γ1) (h : m D0 Γ1) : mFrzL i m D0 Γ := ⟨d, d', h1, h2, by rw [h3]; exact h⟩
def d1k (rk rv : Res) (Γ : Env) (Q : QE) : Prop := ∃ kd k dv, rd Γ rk = some kd ∧ keyO kd = some k ∧ dat rv = some dv ∧ Q (.fr (.dic [(k, dv)])) Γ
theorem e_Dict1 {mk mv : DTE} (h : mk Γ fun rk Γ1 => mv Γ1 fun rv Γ2 => d1k rk rv Γ2 Q) : mDict1 mk mv Γ Q := h
theorem e_d1 {rk rv : Res} {k : Int} {dv : D} (h1 : rd Γ rk = some (.int k)) (h2 : dat rv = some dv) (h : Q (.fr (.dic [(.inl k, dv)])) Γ) : d1k rk rv Γ Q := ⟨_, _, dv, h1, rfl, h2, h⟩
theorem e_Dict0T (h : Q (.fr (.dit [])) Γ) : mDict0T Γ Q := h
end
/-! ### dicts of ints -/
def prK (l : List (Int × Int)) : List (L2.Key × D) := l.map fun p => (.inl p.1, .int p.2)
end DL
/-! the data layer, part 59: the least of rows of ints; pairs of ints sorted -/
namespace DL
open PySem PySem.Spec PyProof.Rows L2
/-! over data -/
end DL
/-! the data layer, part 60: d.get(k) -/
namespace DL
open PySem PySem.Spec PyProof.Rows L2
def mDGet1 (mo mk : DTE) : DTE := fun Γ Q => mo Γ fun ro Γ1 => (∃ c, rd Γ1 ro = some c ∧ isDic c = true) ∧ mk Γ1 fun rk Γ2 => ∃ c k o, rd Γ2 ro = some c ∧ rd Γ2 rk = some k ∧ lookD c k = some o ∧ Q (.val (o.getD .non)) Γ2
section
variable {Γ : Env} {Q : QE} {mo mi : DTE}
def g1b (ro rk : Res) (Γ : Env) (Q : QE) : Prop := ∃ c k o, rd Γ ro = some c ∧ rd Γ rk = some k ∧ lookD c k = some o ∧ Q (.val (o.getD .non)) Γ
def g1a (ro : Res) (mi : DTE) (Γ : Env) (Q : QE) : Prop := (∃ c, rd Γ ro = some c ∧ isDic c = true) ∧ mi Γ fun rk Γ2 => g1b ro rk Γ2 Q
theorem e_DGet1 (h : mo Γ fun ro Γ1 => g1a ro mi Γ1 Q) : mDGet1 mo mi Γ Q := h
theorem e_g1a {ro : Res} {c : D} (h1 : rd Γ ro = some c) (h2 : isDic c = true) (h : mi Γ fun rk Γ2 => g1b ro rk Γ2 Q) : g1a ro mi Γ Q := ⟨⟨c, h1, h2⟩, h⟩
end
end DL
/-! the data layer, part 61: sorted(d), d a dict with int keys, any number of them -/
namespace DL
open PySem PySem.Spec PyProof.Rows L2
theorem RepK.keys {K : Fg} {H : Hp} : ∀ {vs : List (L2.Key × V)} {ds : List (L2.Key × D)}, RepK K H vs ds → vs.map (·.1) = ds.map (·.1)
  | _, _, .nil => rfl
  | _, _, .cons _ r => by rw [List.map_cons, List.map_cons, RepK.keys r]
/-! ### x = e, where e answers a plain value or a fresh object -/
def sel (i : Nat) (r : Res) (Γ : Env) (nx : Env → Prop) : Prop := (∃ d, r = .val d ∧ freeB Γ i = true ∧ nx (Γ.set i (.sh d))) ∨ ∃ d, r = .fr d ∧ freeB Γ i = true ∧ nx (Γ.set i (.ow d))
def mSetE (i : Nat) (ma : DTE) : DTS := fun D Γ => ma Γ fun r Γ1 => sel i r Γ1 D.nx
section
variable {X : Cx} {C : Ctx} {st : Stmt} {e : Expr} {te : TE} {me : DTE} {Γ Γ' : Env} {nx bk ct : Env → Prop} {rt : Res → Env → Prop} {i : Nat} {d : D}
theorem s_SetE {ma : DTE} (h : ma Γ fun r Γ1 => sel i r Γ1 nx) : mSetE i ma (.mk nx rt bk ct) Γ := h
theorem s_setEv (h2 : freeB Γ i = true) (h3 : Γ.set i (.sh d) = Γ') (h : nx Γ') : sel i (.val d) Γ nx := .inl ⟨_, rfl, h2, by rw [h3]; exact h⟩
theorem s_setEo (h2 : freeB Γ i = true) (h3 : Γ.set i (.ow d) = Γ') (h : nx Γ') : sel i (.fr d) Γ nx := .inr ⟨_, rfl, h2, by rw [h3]; exact h⟩
end
/-! ### len(d), d a shared dict -/
end DL
/-! the data layer, part 62: goals by kind (the evaluator looks only at the lemmas of a goal's kind) -/
namespace DL
open PySem PySem.Spec PyProof.Rows L2
theorem gkE {F : Env → QE → Prop} {a : Env} {b : QE} (h : F a b) : F a b := h
theorem gkO {F : D → (Res → Prop) → Prop} {a : D} {b : Res → Prop} (h : F a b) : F a b := h
theorem gkB {F : List D → (Res → Prop) → Prop} {a : List D} {b : Res → Prop} (h : F a b) : F a b := h
theorem gkS {F : DEnds → Env → Prop} {a : DEnds} {b : Env} (h : F a b) : F a b := h
theorem gkT {F : Env → (Env → Prop) → Prop} {a : Env} {b : Env → Prop} (h : F a b) : F a b := h
theorem gkW {F : Env → (Src → List D → Env → Prop) → Prop} {a : Env} {b : Src → List D → Env → Prop} (h : F a b) : F a b := h
theorem gkL {F : Env → (List Res → Env → Prop) → Prop} {a : Env} {b : List Res → Env → Prop} (h : F a b) : F a b := h
theorem gkP {p : Prop} [Decidable p] {a b : Prop} (h : if p then a else b) : if p then a else b := h
theorem gkX {F : (Bool → D → List D → Prop) → EdT → Prop} {a : Bool → D → List D → Prop} {b : EdT} (h : F a b) : F a b := h
end DL
/-! the data layer, part 63: != of two tuples (a truth, an object of the module with its own ==), all equal: False -/
namespace DL
open PySem PySem.Spec PyProof.Rows L2 GQ
/-! over data -/
def mNeTO (C : Addr) (sd : DSp) (ma mb : DTE) : DTE := fun Γ Q => ma Γ fun ra Γ1 => mb Γ1 fun rb Γ2 => ∃ t ns ds ns' ds', dat ra = some (.tup [.bl t, .obj C ns ds]) ∧ dat rb = some (.tup [.bl t, .obj C ns' ds']) ∧
  sd [.obj C ns ds, .obj C ns' ds'] (eqk id Γ2 fun r _ => r = .val (.bl true)) noX ∧ Q (.val (.bl false)) Γ2
section
variable {C : Addr} {Γ Γ1 : Env} {Q : QE} {ma mb : DTE}
def ntk (C : Addr) (sd : DSp) (ra rb : Res) (Γ : Env) (Q : QE) : Prop := ∃ t ns ds ns' ds', dat ra = some (.tup [.bl t, .obj C ns ds]) ∧ dat rb = some (.tup [.bl t, .obj C ns' ds']) ∧ sd [.obj C ns ds, .obj C ns' ds'] (eqk id Γ fun r _ => r = .val (.bl true)) noX ∧ Q (.val (.bl false)) Γ
theorem e_NeTO {sd : DSp} (h : ma Γ fun ra Γ1 => mb Γ1 fun rb Γ2 => ntk C sd ra rb Γ2 Q) : mNeTO C sd ma mb Γ Q := h
end
end DL
/-! the data layer, part 64: sorted(d.items()), d a shared dict of ints, any number of them -/
namespace DL
open PySem PySem.Spec PyProof.Rows L2 LiI
/-! over data -/
def mSortItems (me : DTE) : DTE := fun Γ Q => me Γ fun r Γ1 => ∃ ks : List (Int × Int), r = .val (.dkl (prK ks)) ∧ ks.length ≤ 100000 ∧
  ∀ ms : List (Int × Int), ms.Perm ks → ms.Pairwise (fun x y => ¬ (y.1 < x.1 ∨ (y.1 = x.1 ∧ y.2 < x.2))) → Q (.fr (.lst (ms.map fun p => D.tup [.int p.1, .int p.2]))) Γ1
section
variable {Γ : Env} {Q : QE} {me : DTE}
def sik (r : Res) (Γ : Env) (Q : QE) : Prop := ∃ ks : List (Int × Int), r = .val (.dkl (prK ks)) ∧ ks.length ≤ 100000 ∧ ∀ ms : List (Int × Int), ms.Perm ks → ms.Pairwise (fun x y => ¬ (y.1 < x.1 ∨ (y.1 = x.1 ∧ y.2 < x.2))) → Q (.fr (.lst (ms.map fun p => D.tup [.int p.1, .int p.2]))) Γ
theorem e_SortItems (h : me Γ fun r Γ1 => sik r Γ1 Q) : mSortItems me Γ Q := h
end
end DL
/-! the data layer, part 65: xs.count(k), a list of ints -/
namespace DL
open PySem PySem.Spec PyProof.Rows L2
def isLst : D → Bool
  | .lst _ => true
  | _ => false
def mCount (mo mk : DTE) : DTE := fun Γ Q => mo Γ fun ro Γ1 => (∃ c, rd Γ1 ro = some c ∧ isLst c = true) ∧ mk Γ1 fun rk Γ2 => ∃ (ns : List Int) (k : Int), rd Γ2 ro = some (.lst (ns.map D.int)) ∧ rd Γ2 rk = some (.int k) ∧ Q (.val (.int (ns.count k : Nat))) Γ2
section
variable {Γ : Env} {Q : QE} {mo mi : DTE}
def cnb (ro rk : Res) (Γ : Env) (Q : QE) : Prop := ∃ (ns : List Int) (k : Int), rd Γ ro = some (.lst (ns.map D.int)) ∧ rd Γ rk = some (.int k) ∧ Q (.val (.int (ns.count k : Nat))) Γ
def cna (ro : Res) (mi : DTE) (Γ : Env) (Q : QE) : Prop := (∃ c, rd Γ ro = some c ∧ isLst c = true) ∧ mi Γ fun rk Γ2 => cnb ro rk Γ2 Q
theorem e_Count (h : mo Γ fun ro Γ1 => cna ro mi Γ1 Q) : mCount mo mi Γ Q := h
theorem e_cna {ro : Res} {c : D} (h1 : rd Γ ro = some c) (h2 : isLst c = true) (h : mi Γ fun rk Γ2 => cnb ro rk Γ2 Q) : cna ro mi Γ Q := ⟨⟨c, h1, h2⟩, h⟩
theorem i_count {ro rk : Res} {ns : List Int} {k : Int} (h1 : rd Γ ro = some (.lst (ns.map D.int))) (h2 : rd Γ rk = some (.int k)) (h : Q (.val (.int (ns.count k : Nat))) Γ) : cnb ro rk Γ Q := ⟨ns, k, h1, h2, h⟩
end
end DL
namespace DL
open PySem PySem.Spec PyProof.Rows L2
/-! data that print well, dicts among them -/
mutual
def niceZ (k : Nat) : D → Bool
  | .int i => decide (i.natAbs < 2 ^ k)
  | .bl _ => true
  | .non => true
  | .lst ds => niceZs k ds
  | .tup ds => niceZs k ds
  | .str x => PyData.strOk x
  | .dic kvs => niceZk k kvs
  | .dkl kvs => niceZk k kvs
  | _ => false
def niceZs (k : Nat) : List D → Bool
  | [] => true
  | d :: ds => niceZ k d && niceZs k ds
def niceZk (k : Nat) : List (L2.Key × D) → Bool
  | [] => true
  | (.inl i, d) :: ds => decide (i.natAbs < 2 ^ k) && niceZ k d && niceZk k ds
  | (.inr x, d) :: ds => PyData.strOk x && niceZ k d && niceZk k ds
end
mutual
def wtZ (k : Nat) : D → Nat
  | .int _ => k + 1
  | .lst ds => 4 + wtZs k ds
  | .scr ds => 4 + wtZs k ds
  | .tup ds => 4 + wtZs k ds
  | .dic kvs => 4 + wtZk k kvs
  | .dkl kvs => 4 + wtZk k kvs
  | .str x => 10 * x.length + 5
  | _ => 5
def wtZs (k : Nat) : List D → Nat
  | [] => 0
  | d :: ds => wtZ k d + 2 + wtZs k ds
def wtZk (k : Nat) : List (L2.Key × D) → Nat
  | [] => 0
  | (.inl _, d) :: ds => k + 1 + 2 + wtZ k d + 2 + wtZk k ds
  | (.inr x, d) :: ds => 10 * x.length + 5 + 2 + wtZ k d + 2 + wtZk k ds
end
theorem shownI {k : Nat} (hk0 : 0 < k) (hk : k ≤ 1920) {i : Int} (h : i.natAbs < 2 ^ k) : (PyData.int i).showable = true ∧ PyData.strOk (PyData.int i).shown = true ∧ (PyData.int i).shown.length ≤ k + 1 := by
  have hl := log2_nice hk0 h
  refine ⟨by rw [PyData.showable]; exact decide_eq_true (by omega), by rw [PyData.shown]; exact strOk_of _, ?_⟩
  rw [PyData.shown]
  have := int_text_length_le hk0 hl
  rw [Str_len]; omega
theorem shownS {x : Str} (h : PyData.strOk x = true) : (PyData.str x).showable = true ∧ PyData.strOk (PyData.str x).shown = true ∧ (PyData.str x).shown.length ≤ 10 * x.length + 5 := by
  refine ⟨rfl, by rw [PyData.shown]; exact strOk_repr h, ?_⟩
  rw [PyData.shown]
  have := StrLaws.reprText_len x fun c hc => Nat.lt_trans (strOk_mem.mp h c hc) (by decide)
  omega
theorem strOk_dict {ps : List Str} (h : ∀ t ∈ ps, PyData.strOk t = true) : PyData.strOk (dictText ps) = true := by
  unfold dictText
  exact strOk_app (strOk_app (strOk_of _) (strOk_join _ _ h)) (strOk_of _)
theorem len_dict (ps : List Str) : (dictText ps).length ≤ (ps.map (·.length)).sum + 2 * ps.length + 2 := by
  unfold dictText
  rw [strLen_append, strLen_append]
  have h8 := join_len ", " ps
  have h9 : (", " : Str).length = 2 := by decide
  rw [h9] at h8
  have h10 : ("{" : Str).length = 1 := by decide
  have h11 : ("}" : Str).length = 1 := by decide
  omega
section
variable {k : Nat} (hk0 : 0 < k) (hk : k ≤ 1920)
include hk0 hk
mutual
theorem niceZ_ok : ∀ d : D, niceZ k d = true → plainZ d = true ∧ (toPy d).showable = true ∧ PyData.strOk (toPy d).shown = true ∧ (toPy d).shown.length ≤ wtZ k d
  | .non, _ => by refine ⟨rfl, rfl, strOk_of _, ?_⟩; simp only [toPy, PyData.shown, wtZ]; decide
  | .bl b, _ => by
    refine ⟨rfl, rfl, ?_, ?_⟩
    · cases b <;> exact strOk_of _
    · simp only [toPy, PyData.shown, wtZ]; cases b <;> decide
  | .int i, h => by
    rw [niceZ, decide_eq_true_eq] at h
    rw [toPy, wtZ]
    exact ⟨rfl, shownI hk0 hk h⟩
  | .str x, h => by
    rw [niceZ] at h
    rw [toPy, wtZ]
    exact ⟨rfl, shownS h⟩
  | .lst ds, h => by
    rw [niceZ] at h
    obtain ⟨h1, h3, h6, h7⟩ := niceZs_ok ds h
    refine ⟨by rw [plainZ]; exact h1, by rw [toPy, PyData.showable]; exact h3, ?_, ?_⟩
    · rw [toPy, PyData.shown]
      exact strOk_app (strOk_textFrom _ _ _ h6 (strOk_of _)) (strOk_of _)
    · rw [toPy, PyData.shown, wtZ]
      have := listText_len_le (PyData.shownAll (toPys ds))
      omega
  | .scr _, h => by simp [niceZ] at h
  | .tup ds, h => by
    rw [niceZ] at h
    obtain ⟨h1, h3, h6, h7⟩ := niceZs_ok ds h
    refine ⟨by rw [plainZ]; exact h1, by rw [toPy, PyData.showable]; exact h3, ?_, ?_⟩
    · rw [toPy, PyData.shown]
      unfold tupleText
      refine strOk_app (strOk_app (strOk_of _) (strOk_join _ _ h6)) ?_
      split <;> exact strOk_of _
    · rw [toPy, PyData.shown, wtZ]
      unfold tupleText
      rw [strLen_append, strLen_append]
      have h8 := join_len ", " (PyData.shownAll (toPys ds))
      have h9 : (", " : Str).length = 2 := by decide
      rw [h9] at h8
      have h10 : ("(" : Str).length = 1 := by decide
      have h11 : ((if (PyData.shownAll (toPys ds)).length == 1 then ",)" else ")" : String) : Str).length ≤ 2 := by split <;> decide
      omega
  | .dic ds, h => by
    rw [niceZ] at h
    obtain ⟨h1, h3, h6, h7⟩ := niceZk_ok ds h
    refine ⟨by rw [plainZ]; exact h1, by rw [toPy, PyData.showable]; exact h3, ?_, ?_⟩
    · rw [toPy, PyData.shown]; exact strOk_dict h6
    · rw [toPy, PyData.shown, wtZ]
      have := len_dict (PyData.shownKv (toPyK ds))
      omega
  | .dkl ds, h => by
    rw [niceZ] at h
    obtain ⟨h1, h3, h6, h7⟩ := niceZk_ok ds h
    refine ⟨by rw [plainZ]; exact h1, by rw [toPy, PyData.showable]; exact h3, ?_, ?_⟩
    · rw [toPy, PyData.shown]; exact strOk_dict h6
    · rw [toPy, PyData.shown, wtZ]
      have := len_dict (PyData.shownKv (toPyK ds))
      omega
  | .dit _, h => by simp [niceZ] at h
  | .dtl _, h => by simp [niceZ] at h
  | .pnK _ _, h => by simp [niceZ] at h
  | .pnT _ _, h => by simp [niceZ] at h
  | .obj _ _ _, h => by simp [niceZ] at h
  | .cls _, h => by simp [niceZ] at h
  | .xcl _ _, h => by simp [niceZ] at h
theorem niceZs_ok : ∀ ds : List D, niceZs k ds = true → plainZs ds = true ∧ PyData.showableAll (toPys ds) = true ∧ (∀ t ∈ PyData.shownAll (toPys ds), PyData.strOk t = true) ∧ ((PyData.shownAll (toPys ds)).map (·.length)).sum + 2 * (PyData.shownAll (toPys ds)).length ≤ wtZs k ds
  | [], _ => by refine ⟨rfl, rfl, fun t ht => ?_, ?_⟩ <;> simp_all [toPys, PyData.shownAll, wtZs]
  | d :: ds, h => by
    rw [niceZs, Bool.and_eq_true] at h
    obtain ⟨a1, a3, a6, a7⟩ := niceZ_ok d h.1
    obtain ⟨h1, h3, h6, h7⟩ := niceZs_ok ds h.2
    refine ⟨by rw [plainZs, a1, h1]; rfl, by rw [toPys, PyData.showableAll, a3, h3]; rfl, fun t ht => ?_, ?_⟩
    · rw [toPys, PyData.shownAll] at ht
      rcases List.mem_cons.mp ht with e | e
      · rw [e]; exact a6
      · exact h6 t e
    · rw [toPys, PyData.shownAll, wtZs]
      simp only [List.map_cons, List.sum_cons, List.length_cons]
      omega
theorem niceZk_ok : ∀ ds : List (L2.Key × D), niceZk k ds = true → plainZk ds = true ∧ PyData.showableKv (toPyK ds) = true ∧ (∀ t ∈ PyData.shownKv (toPyK ds), PyData.strOk t = true) ∧ ((PyData.shownKv (toPyK ds)).map (·.length)).sum + 2 * (PyData.shownKv (toPyK ds)).length ≤ wtZk k ds
  | [], _ => by refine ⟨rfl, rfl, fun t ht => ?_, ?_⟩ <;> simp_all [toPyK, PyData.shownKv, wtZk]
  | (.inl i, d) :: ds, h => by
    rw [niceZk, Bool.and_eq_true, Bool.and_eq_true, decide_eq_true_eq] at h
    obtain ⟨b3, b6, b7⟩ := shownI hk0 hk h.1.1
    obtain ⟨a1, a3, a6, a7⟩ := niceZ_ok d h.1.2
    obtain ⟨h1, h3, h6, h7⟩ := niceZk_ok ds h.2
    refine ⟨by rw [plainZk, a1, h1]; rfl, by rw [toPyK, keyPy, PyData.showableKv, a3, h3, b3]; rfl, fun t ht => ?_, ?_⟩
    · rw [toPyK, keyPy, PyData.shownKv] at ht
      rcases List.mem_cons.mp ht with e | e
      · rw [e]; exact strOk_app (strOk_app b6 (strOk_of _)) a6
      · exact h6 t e
    · rw [toPyK, keyPy, PyData.shownKv, wtZk]
      simp only [List.map_cons, List.sum_cons, List.length_cons, strLen_append]
      have h10 : (": " : Str).length = 2 := by decide
      omega
  | (.inr x, d) :: ds, h => by
    rw [niceZk, Bool.and_eq_true, Bool.and_eq_true] at h
    obtain ⟨b3, b6, b7⟩ := shownS h.1.1
    obtain ⟨a1, a3, a6, a7⟩ := niceZ_ok d h.1.2
    obtain ⟨h1, h3, h6, h7⟩ := niceZk_ok ds h.2
    refine ⟨by rw [plainZk, a1, h1]; rfl, by rw [toPyK, keyPy, PyData.showableKv, a3, h3, b3]; rfl, fun t ht => ?_, ?_⟩
    · rw [toPyK, keyPy, PyData.shownKv] at ht
      rcases List.mem_cons.mp ht with e | e
      · rw [e]; exact strOk_app (strOk_app b6 (strOk_of _)) a6
      · exact h6 t e
    · rw [toPyK, keyPy, PyData.shownKv, wtZk]
      simp only [List.map_cons, List.sum_cons, List.length_cons, strLen_append]
      have h10 : (": " : Str).length = 2 := by decide
      omega
end
end
/-- prints well, not too deep, not too long -/
structure NiceZ (d : D) : Prop where
  nice : niceZ 256 d = true
  deep : (toPy d).depth ≤ 20
  wt : wtZ 256 d ≤ 900000
theorem NiceZ.okS {d : D} (h : NiceZ d) : DL.okE (.str (toPy d).shown) = true := okE_strOk (niceZ_ok (k := 256) (by decide) (by decide) d h.nice).2.2.1
end DL
namespace DL
open PySem PySem.Spec PyProof.Rows L2
/-! a walk over a text -/
def chrs (x : Str) : List D := x.cps.toList.map fun c => D.str ⟨#[c]⟩
def mSeqT (ma : DTE) : DTI := fun Γ Q => ma Γ fun r Γ1 => ∃ x, rd Γ1 r = some (.str x) ∧ Q .no (chrs x) Γ1
def sqt (r : Res) (Γ : Env) (Q : Src → List D → Env → Prop) : Prop := ∃ x, rd Γ r = some (.str x) ∧ Q .no (chrs x) Γ
theorem w_SeqT {Γ : Env} {ma : DTE} {Q : Src → List D → Env → Prop} (h : ma Γ fun r Γ1 => sqt r Γ1 Q) : mSeqT ma Γ Q := h
theorem w_seqt {Γ : Env} {r : Res} {x : Str} {Q : Src → List D → Env → Prop} (h1 : rd Γ r = some (.str x)) (h : Q .no (chrs x) Γ) : sqt r Γ Q := ⟨x, h1, h⟩
/-! steps of texts -/
theorem i_lenS {x : Str} {Q : Res → Prop} (h1 : x.length ≤ 100000) (h : Q (.val (.int x.length))) : lenD [.str x] Q := ⟨h1, h⟩
theorem i_inSS {c : Nat} {x : Str} {Q : Res → Prop} (h : Q (.val (.bl (decide (c ∈ x.cps.toList))))) : inD (.str ⟨#[c]⟩) (.str x) Q := ⟨c, rfl, h⟩
end DL
namespace DL
open PySem PySem.Spec PyProof.Rows L2
/-! isinstance(x, (A, B)), built-in classes -/
def mIsiT (Ts : List String) (ma : DTE) : DTE := fun Γ Q => ma Γ fun r Γ1 => ∃ d, rd Γ1 r = some d ∧ (tyN d).isSome = true ∧ Q (.val (.bl (Ts.any fun T => isTy T d))) Γ1
section
variable {Γ Γ1 : Env} {ma : DTE} {Q : QE}
def isuk (Ts : List String) (r : Res) (Γ : Env) (Q : QE) : Prop := ∃ d, rd Γ r = some d ∧ (tyN d).isSome = true ∧ Q (.val (.bl (Ts.any fun T => isTy T d))) Γ
theorem e_IsiTu {Ts : List String} (h : ma Γ fun r Γ1 => isuk Ts r Γ1 Q) : mIsiT Ts ma Γ Q := h
theorem e_isiTuT {Ts : List String} {r : Res} {d : D} (h1 : rd Γ r = some d) (h2 : (tyN d).isSome = true) (h3 : (Ts.any fun T => isTy T d) = true) (h : Q (.val (.bl true)) Γ) : isuk Ts r Γ Q := ⟨d, h1, h2, by rw [h3]; exact h⟩
theorem e_isiTuF {Ts : List String} {r : Res} {d : D} (h1 : rd Γ r = some d) (h2 : (tyN d).isSome = true) (h3 : (Ts.any fun T => isTy T d) = false) (h : Q (.val (.bl false)) Γ) : isuk Ts r Γ Q := ⟨d, h1, h2, by rw [h3]; exact h⟩
end
theorem e_d1s {Γ : Env} {Q : QE} {rk rv : Res} {x : Str} {dv : D} (h1 : rd Γ rk = some (.str x)) (h2 : dat rv = some dv) (h : Q (.fr (.dic [(.inr x, dv)])) Γ) : d1k rk rv Γ Q := ⟨_, _, dv, h1, rfl, h2, h⟩
/-! a list compared with [] (whatever it holds) -/
def empD (F : Bool → Bool) : D → D → (Res → Prop) → Prop
  | .lst ds, .lst [], Q => Q (.val (.bl (F ds.isEmpty)))
  | .scr ds, .lst [], Q => Q (.val (.bl (F ds.isEmpty)))
  | _, _, _ => False
theorem i_eqEmp {ds : List D} {Q : Res → Prop} (h : Q (.val (.bl ds.isEmpty))) : empD id (.lst ds) (.lst []) Q := h
theorem i_neEmp {ds : List D} {Q : Res → Prop} (h : Q (.val (.bl (!ds.isEmpty)))) : empD (fun b => !b) (.lst ds) (.lst []) Q := h
/-! a tuple times a number -/
end DL
/-! the data layer, part 69: {tuple: v}; dicts whose keys are tuples of ints -/
namespace DL
open PySem PySem.Spec PyProof.Rows L2
def mDict1T (mk mv : DTE) : DTE := fun Γ Q => mk Γ fun rk Γ1 => mv Γ1 fun rv Γ2 => ∃ ds k dv, rd Γ2 rk = some (.tup ds) ∧ keysO ds = some k ∧ dat rv = some dv ∧ Q (.fr (.dit [(k, dv)])) Γ2
/-! ### dicts whose keys are tuples of ints -/
def prT (l : List (List Int × D)) : List (List L2.Key × D) := l.map fun p => (p.1.map Sum.inl, p.2)
theorem keysO_ints : ∀ l : List Int, keysO (l.map D.int) = some (l.map Sum.inl)
  | [] => rfl
  | x :: l => by rw [List.map_cons, keysO, keysO_ints l]; rfl
section
variable {Γ : Env} {Q : QE}
def d1kT (rk rv : Res) (Γ : Env) (Q : QE) : Prop := ∃ ds k dv, rd Γ rk = some (.tup ds) ∧ keysO ds = some k ∧ dat rv = some dv ∧ Q (.fr (.dit [(k, dv)])) Γ
theorem e_Dict1T {mk mv : DTE} (h : mk Γ fun rk Γ1 => mv Γ1 fun rv Γ2 => d1kT rk rv Γ2 Q) : mDict1T mk mv Γ Q := h
theorem e_d1T {rk rv : Res} {l : List Int} {dv : D} (h1 : rd Γ rk = some (.tup (l.map D.int))) (h2 : dat rv = some dv) (h : Q (.fr (.dit (prT [(l, dv)]))) Γ) : d1kT rk rv Γ Q := ⟨_, _, dv, h1, keysO_ints l, h2, h⟩
end
end DL
namespace DL
open PySem PySem.Spec PyProof.Rows L2
/-! own == and != with a thing of any built-in kind -/
/-- x == y by the own == of x's class, y of any built-in kind -/
def mEqX (C : Addr) (sd : DSp) (F : Bool → Bool) (ma mb : DTE) : DTE := fun Γ Q => ma Γ fun ra Γ1 => mb Γ1 fun rb Γ2 => ∃ ns ds d, dat ra = some (.obj C ns ds) ∧ dat rb = some d ∧ (tyN d).isSome = true ∧ sd [.obj C ns ds, d] (eqk F Γ2 Q) noX
section
variable {X : Cx} {C : Ctx} {C0 : Addr} {k : Nat} {g : Addr} {fd : FuncData} {ps : List Str} {sd : DSp} {ta tb : TE} {ma mb : DTE} {a b : Expr} {pos : Pos} {E : XK}
variable {Γ : Env} {Q : QE} {r r2 : Res} {ns : List Str} {ds : List D}
def eoxk (C : Addr) (sd : DSp) (F : Bool → Bool) (ra rb : Res) (Γ2 : Env) (Q : QE) : Prop := ∃ ns ds d, dat ra = some (.obj C ns ds) ∧ dat rb = some d ∧ (tyN d).isSome = true ∧ sd [.obj C ns ds, d] (eqk F Γ2 Q) noX
theorem e_EqX {F : Bool → Bool} (h : ma Γ fun ra Γ1 => mb Γ1 fun rb Γ2 => eoxk C0 sd F ra rb Γ2 Q) : mEqX C0 sd F ma mb Γ Q := h
theorem e_eqX {F : Bool → Bool} {d : D} (h1 : dat r = some (.obj C0 ns ds)) (h2 : dat r2 = some d) (h3 : (tyN d).isSome = true) (h : sd [.obj C0 ns ds, d] (eqk F Γ Q) noX) : eoxk C0 sd F r r2 Γ Q := ⟨_, _, _, h1, h2, h3, h⟩
end
end DL
namespace DL
open PySem PySem.Spec PyProof.Rows L2
/-! x in a list of trees -/
theorem i_neSame {a : D} {Q : Res → Prop} (h1 : NiceD a) (h : Q (.val (.bl false))) : neD a a Q := i_ne (b := true) h1.okE h1.okE h1.eqv h
end DL
namespace DL
open PySem PySem.Spec PyProof.Rows L2
/-! xs.index(x) of a list -/
/-- j is the first place of an equal one -/
def IdxAt (ds : List D) (x : D) (j : Nat) : Prop := (∃ z, ds[j]? = some z ∧ eqv z x = true) ∧ ∀ (m : Nat) (z : D), m < j → ds[m]? = some z → eqv z x = false
def mIndex (mo mk : DTE) : DTE := fun Γ Q => mo Γ fun ro Γ1 => (∃ c, rd Γ1 ro = some c ∧ isLst c = true) ∧ mk Γ1 fun rk Γ2 => ∃ (ds : List D) (x : D) (j : Nat), rd Γ2 ro = some (.lst ds) ∧ rd Γ2 rk = some x ∧ okE (.lst ds) = true ∧ okE x = true ∧ IdxAt ds x j ∧ Q (.val (.int (j : Nat))) Γ2
section
variable {Γ : Env} {Q : QE} {mo mi : DTE}
def idb (ro rk : Res) (Γ : Env) (Q : QE) : Prop := ∃ (ds : List D) (x : D) (j : Nat), rd Γ ro = some (.lst ds) ∧ rd Γ rk = some x ∧ okE (.lst ds) = true ∧ okE x = true ∧ IdxAt ds x j ∧ Q (.val (.int (j : Nat))) Γ
def ida (ro : Res) (mi : DTE) (Γ : Env) (Q : QE) : Prop := (∃ c, rd Γ ro = some c ∧ isLst c = true) ∧ mi Γ fun rk Γ2 => idb ro rk Γ2 Q
theorem e_Index (h : mo Γ fun ro Γ1 => ida ro mi Γ1 Q) : mIndex mo mi Γ Q := h
theorem e_ida {ro : Res} {c : D} (h1 : rd Γ ro = some c) (h2 : isLst c = true) (h : mi Γ fun rk Γ2 => idb ro rk Γ2 Q) : ida ro mi Γ Q := ⟨⟨c, h1, h2⟩, h⟩
end
end DL
/-! x[:] = a list, x a place -/
namespace L2
open PySem PySem.Spec PyProof.Rows
end L2
namespace DL
open PySem PySem.Spec PyProof.Rows L2
section
variable {X : Cx} {C : Ctx} {pos p2 : Pos} {o : Expr} {to : TE} {mo : DTE}
def mgAll (mo : DTE) : DTG := fun d Γ Q => mo Γ fun ro Γ1 => ∃ i xs ys, ro = .pl i ∧ cont Γ1[i]? = some (.lst xs) ∧ d = .lst ys ∧ xs.length + ys.length ≤ 100000 ∧ ∃ Γ4, setC Γ1 i (.lst ys) = some Γ4 ∧ Q Γ4
end
def alck (d : D) (ro : Res) (Γ : Env) (Q : Env → Prop) : Prop := ∃ i xs ys, ro = .pl i ∧ cont Γ[i]? = some (.lst xs) ∧ d = .lst ys ∧ xs.length + ys.length ≤ 100000 ∧ ∃ Γ4, setC Γ i (.lst ys) = some Γ4 ∧ Q Γ4
theorem g_All {mo : DTE} {d : D} {Γ : Env} {Q : Env → Prop} (h : mo Γ fun ro Γ1 => alck d ro Γ1 Q) : mgAll mo d Γ Q := h
theorem g_all {xs ys : List D} {i : Nat} {Γ Γ4 Γ5 : Env} {Q : Env → Prop} (h1 : cont Γ[i]? = some (.lst xs)) (hz : xs.length + ys.length ≤ 100000) (hs : setC Γ i (.lst ys) = some Γ4) (h4 : Γ4 = Γ5) (h : Q Γ5) : alck (.lst ys) (.pl i) Γ Q := ⟨i, xs, ys, rfl, h1, rfl, hz, Γ4, hs, by rw [h4]; exact h⟩
end DL
/-! isinstance(e, (A, B)) of a caught exception -/
namespace DL
open PySem PySem.Spec PyProof.Rows L2
def lkAny (n : Str) : List (List (Str × Bool)) → Option Bool
  | [] => some false
  | t :: ts => match t.lookup n, lkAny n ts with
    | some b, some c => some (b || c)
    | _, _ => none
def mXisT (n : Str) (a : Addr) (tabs : List (List (Str × Bool))) (mo : DTE) : DTE := fun Γ Q => mo Γ fun r Γ1 => r = .val (.cls a) ∧ ∃ b, lkAny n tabs = some b ∧ Q (.val (.bl b)) Γ1
section
variable {X : Cx} {C : Ctx} {cls : Value} {d : Option Addr} {n : Str} {fvs : List (Str × V)} {fds : List (Str × D)} {a : Addr} {oe : Obj} {pn : List (Addr × Obj)} {to : TE} {mo : DTE} {o : Expr} {p pos tpos : Pos} {es : List Expr} {n1 : Nat}
variable {Γ : Env} {Q : QE} {tabs : List (List (Str × Bool))} {b : Bool}
def xikT (n : Str) (a : Addr) (tabs : List (List (Str × Bool))) (r : Res) (Γ1 : Env) (Q : QE) : Prop := r = .val (.cls a) ∧ ∃ b, lkAny n tabs = some b ∧ Q (.val (.bl b)) Γ1
theorem e_XisT (h : mo Γ fun r Γ1 => xikT n a tabs r Γ1 Q) : mXisT n a tabs mo Γ Q := h
theorem e_xisT (h1 : lkAny n tabs = some b) (h : Q (.val (.bl b)) Γ) : xikT n a tabs (.val (.cls a)) Γ Q := ⟨rfl, _, h1, h⟩
theorem e_xisTT (h1 : lkAny n tabs = some true) (h : Q (.val (.bl true)) Γ) : xikT n a tabs (.val (.cls a)) Γ Q := e_xisT h1 h
theorem e_xisTF (h1 : lkAny n tabs = some false) (h : Q (.val (.bl false)) Γ) : xikT n a tabs (.val (.cls a)) Γ Q := e_xisT h1 h
end
theorem e_eqkI {Γ : Env} {Q : QE} {z : Bool} (h : Q (.val (.bl z)) Γ) : eqk id Γ Q false (.bl z) [] := eqk_in h
theorem e_eqkF {Γ : Env} {Q : QE} (h : Q (.val (.bl true)) Γ) : eqk (fun b => !b) Γ Q false (.bl false) [] := eqk_in h
theorem e_eqkT {Γ : Env} {Q : QE} (h : Q (.val (.bl false)) Γ) : eqk (fun b => !b) Γ Q false (.bl true) [] := eqk_in h
end DL
namespace DL
open PySem PySem.Spec PyProof.Rows L2
/-! range(i, j, c) -/
def rngC (lo c : Int) (n : Nat) : List D := (List.range n).map fun i => D.int (lo + (i : Nat) * c)
def mRng3 (ma : DTA) : DTI := fun Γ Q => ma Γ fun rs Γ1 => ∃ (i j c : Int) (n : Nat), rs = [.val (.int i), .val (.int j), .val (.int c)] ∧ RgC i j c n ∧ Q .no (rngC i c n) Γ1
section
variable {Γ : Env} {ma : DTA}
def rg3k (rs : List Res) (Γ1 : Env) (Q : Src → List D → Env → Prop) : Prop := ∃ (i j c : Int) (n : Nat), rs = [.val (.int i), .val (.int j), .val (.int c)] ∧ RgC i j c n ∧ Q .no (rngC i c n) Γ1
theorem w_Rng3 {Q : Src → List D → Env → Prop} (h : ma Γ fun rs Γ1 => rg3k rs Γ1 Q) : mRng3 ma Γ Q := h
theorem w_down {Q : Src → List D → Env → Prop} {i j : Int} (h1 : -(2 ^ 62) ≤ i ∧ i < 2 ^ 62 ∧ -(2 ^ 62) ≤ j ∧ j < 2 ^ 62) (h : Q .no (rngC i (-1) (i - j).toNat) Γ) : rg3k [.val (.int i), .val (.int j), .val (.int (-1))] Γ Q := ⟨i, j, -1, _, rfl, RgC.neg h1.1 h1.2.1 h1.2.2.1 h1.2.2.2, h⟩
end
end DL
/-! tuple + tuple; x or y, x and y of any values by their truth -/
namespace DL
open PySem PySem.Spec PyProof.Rows L2
section
variable {X : Cx} {K : Fg} {C : Ctx} {ta tb : TE} {ma mb : DTE} {a b : Expr} {pos : Pos} {Γ : Env}
def truthD : D → Option Bool
  | .non => some false
  | .bl b => some b
  | .int i => some (i != 0)
  | .tup ds => some (!ds.isEmpty)
  | _ => none
def mOrT (ma mb : DTE) : DTE := fun Γ Q => ma Γ fun r Γ1 => ∃ d b, r = .val d ∧ truthD d = some b ∧ if b = true then Q (.val d) Γ1 else mb Γ1 Q
/-! evaluator -/
def ort (r : Res) (Γ : Env) (mb : DTE) (Q : QE) : Prop := ∃ d b, r = .val d ∧ truthD d = some b ∧ if b = true then Q (.val d) Γ else mb Γ Q
theorem e_OrT {Q : QE} (h : ma Γ fun r Γ1 => ort r Γ1 mb Q) : mOrT ma mb Γ Q := h
end
end DL
/-! the data layer, part 77: a pair whose second part is a new list is handed back, and that list is changed -/
namespace DL
open PySem PySem.Spec PyProof.Rows L2 RT
/-! ### return a, b; b a new list -/
def mRetNP (m0 m1 : DTE) : DTS := fun D Γ => m0 Γ fun r0 Γ1 => m1 Γ1 fun r1 Γ2 => ∃ a ds Γ3, dat r0 = some a ∧ ((r1 = .fr (.lst ds) ∧ Γ3 = Γ2) ∨ ∃ i, r1 = .pl i ∧ Γ2[i]? = some (.ow (.lst ds)) ∧ Γ3 = Γ2.set i (.sh (.lst ds))) ∧ D.rt (.np a ds) Γ3
section
variable {C : Ctx} {t0 t1 : TE} {m0 m1 : DTE}
theorem np_alloc {Γ : Env} {O : List Addr} {σ : L2.St} {H : Hp} {v0 : V} {a : D} {l p : Addr} {ws : List V} {ds : List D} (R : RelO C Γ O σ H) (hp : H p = none) (hl : H l = some (.lst ws)) (hlO : l ∉ O) (h0 : C.H0 l = none) (r0 : Rep C.K (hide O H) v0 a) (rs : Reps C.K (hide O H) ws ds) : ROk C Γ O σ (upd H p (.tup [v0, .ref l])) (.ref p) (.np a ds) := by
  have e : Same (hide O H) (hide O (upd H p (.tup [v0, .ref l]))) := hide_new hp
  exact ⟨R.alloc hp, p, l, v0, ws, rfl, upd_same, R.notin hp, hlO, by rw [upd_ne (ne_of_none hl hp)]; exact hl, h0, r0.mono e, rs.mono e⟩
theorem sim_retNP (h0 : SimE C t0 m0) (h1 : SimE C t1 m1) : SimS C (tRet (tTup (tCons t0 (tCons t1 tNil)))) (mRetNP m0 m1) := fun Γ O σ H D Dd R h L => by
  refine h0 Γ O σ H _ _ R h fun r0 Γ1 v0 H1 R1 e1 q1 => ?_
  refine h1 Γ1 O σ H1 _ _ R1.rel q1 fun r1 Γ2 v1 H2 R2 e2 q2 => ?_
  obtain ⟨a, ds, Γ3, ha, hr1, q⟩ := q2
  refine ⟨by show 2 ≤ _; decide, fun p hp => ?_⟩
  have p0 : Rep C.K (hide O H2) v0 a := (R1.pend.dat ha).mono e2.1
  rcases hr1 with ⟨rfl, rfl⟩ | ⟨i, rfl, hi, rfl⟩
  · obtain ⟨RR, l, o, rfl, hl, hlO, h0l, ho, _⟩ := R2
    cases ho with
    | lst rr => exact L.rt _ _ O σ _ _ (np_alloc RR hp hl hlO h0l p0 (rr.mono hide_cons_sub)) q
  · have hs : σ[i]? = some (some v1) := R2.2
    obtain ⟨l, o, g1, g2, g3, g4, g5⟩ := R2.1.sl i _ hi
    rw [hs] at g1
    cases g1
    obtain ⟨O', R', e'⟩ := R2.1.freeze hi
    have hil : i < Γ2.length := (List.getElem?_eq_some_iff.mp hi).1
    obtain ⟨v, k1, k2⟩ := R'.sl i _ (List.getElem?_set_self hil)
    rw [hs] at k1
    cases k1
    cases k2 with
    | lst hl rr =>
      obtain ⟨hlO, hl⟩ := hide_some hl
      exact L.rt _ _ O' σ _ _ (np_alloc R' hp hl hlO g3 (p0.mono e') rr) q
end
theorem ds_retNP {X : Cx} {C : Ctx} {e0 e1 : Expr} {t0 t1 : TE} {m0 m1 : DTE} {x1} {p pos : Pos} (h0 : DE X C e0 t0 m0) (h1 : DE X C e1 t1 m1) (hs1 : starEach [e0, e1] X.env = (false, eval e0 X.env) :: starEach [e1] X.env := by rfl) (hs2 : starEach [e1] X.env = (false, eval e1 X.env) :: starEach [] X.env := by rfl) :
    DS X C (.Return (some (.Tuple [e0, e1] x1 p)) pos) (tRet (tTup (tCons t0 (tCons t1 tNil)))) (mRetNP m0 m1) := ⟨ps_ret (pe_tup (pa_cons h0.pe (pa_cons h1.pe pa_nil hs2) hs1)), sim_retNP h0.sim h1.sim⟩
/-! ### name = f(..) that hands such a pair back; looks; name[1].append(..) -/
section
variable {C : Ctx} {Γ : Env} {O : List Addr} {σ : L2.St} {H : Hp}
/-- what stands in the box is what stood before -/
theorem box_slot (R : RelO C Γ O σ H) {mask : List Bool} (hf : freeE mask Γ = true) {i : Nat} {s : Sl} (e : (boxE mask Γ)[i]? = some s) : s = Sl.no ∨ ∃ d v, s = Sl.bo d ∧ σ[i]? = some (some v) ∧ Rep C.K (hide [] H) v d := by
  have hil : i < Γ.length := by
    have := (List.getElem?_eq_some_iff.mp e).1
    rw [(boxE_len hf).1] at this; exact this
  rcases boxE_at hf hil with ⟨_, h2, _⟩ | ⟨_, s0, h1, h2, _⟩
  · rw [h2] at e; cases e; exact .inl rfl
  · rw [h2] at e
    cases e
    have q := see_slot R h1
    cases s0 with
    | no => exact .inl rfl
    | sh d => obtain ⟨v, q1, q2⟩ := q; exact .inr ⟨d, v, rfl, q1, q2⟩
    | ow d => obtain ⟨v, q1, q2⟩ := q; exact .inr ⟨d, v, rfl, q1, q2⟩
    | io d => obtain ⟨v, q1, q2⟩ := q; exact .inr ⟨d, v, rfl, q1, q2⟩
    | bo d => obtain ⟨v, q1, q2⟩ := q; exact .inr ⟨d, v, rfl, q1, q2⟩
/-- a box from slots that are only looked at -/
theorem rel_box {K : Fg} {G : Env} (hl : G.length = σ.length) (key : ∀ (i : Nat) (s : Sl), G[i]? = some s → s = Sl.no ∨ ∃ d v, s = Sl.bo d ∧ σ[i]? = some (some v) ∧ Rep K (hide [] H) v d) : RelO ⟨K, H, [], [], bof G σ, [], []⟩ G [] σ H := by
  have nm : ∀ i a, ¬ MutAt G σ i a := fun i a ⟨⟨d, h⟩, _⟩ => by
    rcases h with h | h <;> rcases key i _ h with z | ⟨_, _, z, _⟩ <;> cases z
  refine ⟨fun i s e => ?_, fun i j a _ h _ => nm i a h, fun a o h _ => h, fun p hp => absurd hp (by simp), fun p hp => ?_, fun a ha => absurd ha (by simp), fun a ha => absurd ha (by simp), fun a ha => absurd ha (by simp), fun a ha => absurd ha (by simp), fun p hp => absurd hp (by simp), fun p hp => absurd hp (by simp), hl⟩
  · rcases key i s e with rfl | ⟨d, v, rfl, h1, h2⟩
    · trivial
    · exact ⟨v, h1, mem_bof.mpr ⟨⟨d, e⟩, h1⟩, .inl h2⟩
  · obtain ⟨i, v⟩ := p
    obtain ⟨h1, h2⟩ := mem_bof.mp hp
    exact ⟨h2, h1⟩
end
def tRevQ (K : Fg) (i : Nat) : Bool → TS
  | true => tDrop (tBM0 K "list" rReverse (tOp (rIx K) (tVar i) (tC (.int 1))))
  | false => tNext
/-- the changes at last: x[1].append(e), and x[1].reverse() -/
def tKill (K : Fg) (i : Nat) (rv : Bool) (ta : TA) : TS := tSeq (tDrop (tBM K "list" rAppend (tOp (rIx K) (tVar i) (tC (.int 1))) ta)) (tRevQ K i rv)
/-- what the changes ask: an argument that is there -/
def mKill (n : Nat) (nx : Env → Prop) (Γk : Env) (ma : DTA) : Env → Prop := fun Γ => Γ.length = n ∧ ma Γ fun rs Γ1 => (∃ d, dats rs = some [d]) ∧ nx Γk
def mNp (i : Nat) (mask : List Bool) (me : DTE) (mm : DTS) (mt : DTT) (ma : DTA) : DTS := fun D Γ => freeE mask Γ = true ∧ mask[i]? = some true ∧ me (boxE mask Γ) fun r Γ1 => Γ1 = boxE mask Γ ∧ ((∃ a ds, r = .np a ds ∧ ds.length < 100000 ∧
  mm ⟨fun Γ3 => mt Γ3 fun b Γ4 => if b = true then mKill Γ.length D.nx (killE mask Γ) ma Γ4 else Γ4.length = Γ.length ∧ D.nx (killE mask Γ), fun r Γ3 => Γ3.length = Γ.length ∧ ∃ d, r = .val d ∧ scal d = true ∧ D.rt (.val d) (killE mask Γ), fun _ => False, fun _ => False⟩ ((boxE mask Γ).set i (.bo (.tup [a, .lst ds])))) ∨ ∃ d, r = .val d ∧
  mm ⟨fun Γ3 => mt Γ3 fun b Γ4 => b = false ∧ Γ4.length = Γ.length ∧ D.nx (killE mask Γ), fun r Γ3 => Γ3.length = Γ.length ∧ ∃ d, r = .val d ∧ scal d = true ∧ D.rt (.val d) (killE mask Γ), fun _ => False, fun _ => False⟩ ((boxE mask Γ).set i (.bo d)))
section
variable {C : Ctx}
theorem sim_np {i : Nat} {mask : List Bool} {rv : Bool} {te : TE} {tm : TS} {tt : TT} {ta : TA} {me : DTE} {mm : DTS} {mt : DTT} {ma : DTA} (he : ∀ H B, SimE (xctx C H B) te me) (hm : ∀ H B, SimS (xctx C H B) tm mm) (ht : ∀ H B, SimT (xctx C H B) tt mt) (ha : ∀ H B, SimA (xctx C H B) ta ma) :
    SimS C (tSeq (tAsg te (gName i)) (tSeq tm (tIfS tt (tKill C.K i rv ta) tNext))) (mNp i mask me mm mt ma) := fun Γ O σ H D Dd R h L => by
  obtain ⟨hf, hk, hme⟩ := h
  have hbl := boxE_len hf
  have hil : i < σ.length := by
    rw [← R.len, ← freeE_len hf]; exact (List.getElem?_eq_some_iff.mp hk).1
  have Rb := rel_box (K := C.K) (G := boxE mask Γ) (by rw [hbl.1, R.len]) fun j s e => box_slot R hf e
  have hiG : i < (boxE mask Γ).length := by rw [hbl.1, R.len]; exact hil
  refine he H (bof (boxE mask Γ) σ) (boxE mask Γ) [] σ H _ _ Rb hme fun r Γ1 v H1 R1 e1 q1 => ?_
  obtain ⟨rfl, q1⟩ := q1
  have gr1 : ∀ b o, H b = some o → H1 b = some o := fun b o h => R1.rel.fr b o h (fun p hp => absurd hp (by simp))
  -- the second box, and out of both
  have main : ∀ (dd : DL.D), Rep C.K (hide [] H1) v dd → ∀ (P : Bool → Env → Prop),
      (∀ b Γ4 O3 σ3 H4, RelO (xctx C H1 (bof ((boxE mask Γ).set i (.bo dd)) (σ.set i (some v)))) Γ4 O3 σ3 H4 → P b Γ4 → (∀ (Γ5 : Env) (H5 H6 : Hp), RelO (xctx C H1 (bof ((boxE mask Γ).set i (.bo dd)) (σ.set i (some v)))) Γ5 O3 σ3 H5 → Γ5.length = Γ.length → (∀ b o, H b = some o → H6 b = some o) → RelO C (killE mask Γ) O σ3 H6) → (∀ b o, H1 b = some o → H4 b = some o) → if b = true then tKill C.K i rv ta D σ3 H4 else tNext D σ3 H4) →
      mm ⟨fun Γ3 => mt Γ3 P, fun r Γ3 => Γ3.length = Γ.length ∧ ∃ d, r = .val d ∧ scal d = true ∧ Dd.rt (.val d) (killE mask Γ), fun _ => False, fun _ => False⟩ ((boxE mask Γ).set i (.bo dd)) → (tSeq tm (tIfS tt (tKill C.K i rv ta) tNext)) D (σ.set i (some v)) H1 := fun dd hrep P hP hmm => by
    have R2 : RelO (xctx C H1 (bof ((boxE mask Γ).set i (.bo dd)) (σ.set i (some v)))) ((boxE mask Γ).set i (.bo dd)) [] (σ.set i (some v)) H1 := by
      refine rel_box (by rw [List.length_set, List.length_set, hbl.1, R.len]) fun j s e => ?_
      by_cases hj : i = j
      · subst hj
        have := get_set_same e
        subst this
        exact .inr ⟨_, _, rfl, List.getElem?_set_self hil, hrep⟩
      · rw [get_set_ne hj] at e ⊢
        rcases box_slot R hf e with z | ⟨d, w, z, q1, q2⟩
        · exact .inl z
        · refine .inr ⟨d, w, z, q1, ?_⟩
          rw [hide_nil] at q2 ⊢
          exact q2.mono gr1
    have out : ∀ (Γ3 : Env) (O3 : List Addr) (σ3 : L2.St) (H3 H4 : Hp), RelO (xctx C H1 (bof ((boxE mask Γ).set i (.bo dd)) (σ.set i (some v)))) Γ3 O3 σ3 H3 → Γ3.length = Γ.length → (∀ b o, H b = some o → H4 b = some o) → RelO C (killE mask Γ) O σ3 H4 := fun Γ3 O3 σ3 H3 H4 R3 h3 gr => by
      have RG := (R.grow gr).1
      have kept : ∀ (j : Nat) (v : V), i ≠ j → (∃ d, (boxE mask Γ)[j]? = some (Sl.bo d)) → σ[j]? = some (some v) → σ3[j]? = some (some v) := fun j v hj h1 h2 => (R3.bb (j, v) (mem_bof.mpr ⟨by rw [get_set_ne hj]; exact h1, by rw [get_set_ne hj]; exact h2⟩)).1
      refine RG.reslot (by rw [hbl.2, ← h3]; exact R3.len) (fun j s e => ?_) (fun j s e he => ?_)
      · have hjl : j < Γ.length := by
          have := (List.getElem?_eq_some_iff.mp e).1
          rw [hbl.2] at this; exact this
        rcases boxE_at hf hjl with ⟨_, _, h2, _⟩ | ⟨hb, s0, h1, h2, h4⟩
        · rw [h2] at e; cases e; exact .inl rfl
        · rw [h4] at e
          cases e
          have hne : i ≠ j := fun z => by rw [z, hb] at hk; cases hk
          cases hs : s with
          | no => exact .inl rfl
          | sh d =>
            refine .inr ⟨by rw [h1, hs], ?_⟩
            obtain ⟨v, q1, _⟩ := R.sl j _ (by rw [h1, hs])
            rw [q1]
            exact kept j v hne ⟨d, by rw [h2, hs]; rfl⟩ q1
          | ow d =>
            refine .inr ⟨by rw [h1, hs], ?_⟩
            obtain ⟨v, _, q1, _⟩ := R.sl j _ (by rw [h1, hs])
            rw [q1]
            exact kept j _ hne ⟨d, by rw [h2, hs]; rfl⟩ q1
          | io d =>
            refine .inr ⟨by rw [h1, hs], ?_⟩
            obtain ⟨v, _, q1, _⟩ := R.sl j _ (by rw [h1, hs])
            rw [q1]
            exact kept j _ hne ⟨d, by rw [h2, hs]; rfl⟩ q1
          | bo d =>
            refine .inr ⟨by rw [h1, hs], ?_⟩
            obtain ⟨v, q1, _⟩ := R.sl j _ (by rw [h1, hs])
            rw [q1]
            exact kept j v hne ⟨d, by rw [h2, hs]; rfl⟩ q1
      · have hjl : j < Γ.length := (List.getElem?_eq_some_iff.mp e).1
        rcases boxE_at hf hjl with ⟨_, _, _, fr⟩ | ⟨_, s0, h1, _, h4⟩
        · obtain ⟨d, rfl | rfl⟩ := he
          · exact absurd e (fr.1 d)
          · exact absurd e (fr.2 d)
        · rw [h1] at e; cases e; exact h4
    have gr3 : ∀ {Γ3 : Env} {O3 : List Addr} {σ3 : L2.St} {H3 : Hp}, RelO (xctx C H1 (bof ((boxE mask Γ).set i (.bo dd)) (σ.set i (some v)))) Γ3 O3 σ3 H3 → ∀ b o, H1 b = some o → H3 b = some o := fun R3 b o h => R3.fr b o h (fun p hp => absurd hp (by simp))
    refine hm _ _ _ [] _ _ { D with nx := (tIfS tt (tKill C.K i rv ta) tNext) D } _ R2 hmm ⟨fun Γ3 O3 σ3 H3 R3 q3 => ?_, fun r Γ3 O3 σ3 H3 v R3 q3 => ?_, fun Γ O σ H R q => q.elim, fun Γ O σ H R q => q.elim⟩
    · refine ht _ _ Γ3 O3 σ3 H3 _ _ R3 q3 fun b Γ4 H4 R4 e4 q4 => ?_
      exact hP b Γ4 O3 σ3 H4 R4 q4 (fun Γ5 H5 H6 R5 h5 g => out Γ5 O3 σ3 H5 H6 R5 h5 g) fun b o hb => gr3 R4 b o hb
    · obtain ⟨hl3, d, rfl, hs, hrt⟩ := q3
      exact L.rt (.val d) _ O σ3 H3 _ ⟨out Γ3 O3 σ3 H3 H3 R3.rel hl3 fun b o hb => gr3 R3.rel b o (gr1 b o hb), scal_rep hs R3.2⟩ hrt
  rcases q1 with ⟨a, ds, rfl, hdl, hmm⟩ | ⟨d, rfl, hmm⟩
  rotate_left
  · refine main d R1.2 _ (fun b Γ4 O3 σ3 H4 R4 q4 out gr => ?_) hmm
    obtain ⟨rfl, h4, hnx⟩ := q4
    exact L.nx _ O _ _ (out Γ4 H4 H4 R4 h4 fun b o hb => gr b o (gr1 b o hb)) hnx
  have N := R1.2
  have hrep : Rep C.K (hide [] H1) v (.tup [a, .lst ds]) := NpOk.rep (C := xctx C H (bof (boxE mask Γ) σ)) N
  refine main _ hrep _ (fun b Γ4 O3 σ3 H4 R4 q4 out gr => ?_) hmm
  obtain ⟨p, l, v0, vs, rfl, hp, hpO, hlO, hl, hl0, hr0, hrs⟩ := N
  cases b with
  | false =>
    obtain ⟨h4, hnx⟩ := q4
    exact L.nx _ O _ _ (out Γ4 H4 H4 R4 h4 fun b o hb => gr b o (gr1 b o hb)) hnx
  | true =>
    obtain ⟨h4, hma⟩ := q4
    have hσ : σ3[i]? = some (some (.ref p)) := (R4.bb (i, .ref p) (mem_bof.mpr ⟨⟨_, List.getElem?_set_self hiG⟩, List.getElem?_set_self hil⟩)).1
    have big : 100000 + 1001 < sizeLine := by decide
    have hvl : vs.length < 100000 := by rw [hrs.length]; exact hdl
    rw [if_pos rfl]
    show (tSeq _ _) D σ3 H4
    refine ⟨_, hσ, ?_⟩
    refine .inr (.inl ⟨p, [v0, .ref l], 1, .ref l, rfl, rfl, SqT.of (gr _ _ hp), rfl, .inl ⟨rfl, _, SqL.of (gr _ _ hl)⟩, ?_⟩)
    refine ha _ _ Γ4 O3 σ3 H4 _ _ R4 hma fun rs Γ5 ws H5 R5 p5 e5 q5 => ?_
    obtain ⟨⟨d, hd⟩, hnx⟩ := q5
    have hws : ∃ y, ws = [y] := by
      have := (dats_ok p5 hd).length
      match ws, this with
      | [y], _ => exact ⟨y, rfl⟩
    obtain ⟨y, rfl⟩ := hws
    have gr5 : ∀ b o, H1 b = some o → H5 b = some o := fun b o h => R5.fr b o h (fun p hp => absurd hp (by simp))
    have hl5 := gr5 _ _ hl
    have hp5 := gr5 _ _ hp
    have hpl : p ≠ l := fun z => by rw [z, hl] at hp; cases hp
    have hHl : ∀ b o, H b = some o → b ≠ l := fun b o hb z => by
      rw [z] at hb
      have : H l = none := hl0
      rw [this] at hb; cases hb
    have h5 : Γ5.length = Γ.length := by
      have a1 := R5.len
      have a2 := R4.len
      omega
    refine ⟨l, vs, y, rfl, rfl, hl5, by omega, ?_⟩
    cases rv with
    | false =>
      refine L.nx _ O _ _ (out Γ5 H5 _ R5 h5 fun b o hb => ?_) hnx
      rw [upd_ne (hHl b o hb)]
      exact gr5 b o (gr1 b o hb)
    | true =>
      show tDrop (tBM0 C.K "list" rReverse (tOp (rIx C.K) (tVar i) (tC (V.int 1)))) D σ3 _
      refine ⟨_, hσ, ?_⟩
      refine .inr (.inl ⟨p, [v0, .ref l], 1, .ref l, rfl, rfl, SqT.of (by rw [upd_ne hpl]; exact hp5), rfl, .inl ⟨rfl, _, SqL.of upd_same⟩, l, _, rfl, rfl, upd_same, ?_⟩)
      refine L.nx _ O _ _ (out Γ5 H5 _ R5 h5 fun b o hb => ?_) hnx
      rw [upd_ne (hHl b o hb), upd_ne (hHl b o hb)]
      exact gr5 b o (gr1 b o hb)
end
section
variable {X : Cx} {C : Ctx} {st : Stmt} {rest lst : List Stmt} {e c : Expr} {es : List Expr} {i : Nat} {rv : Bool} {te : TE} {t tm tl : TS} {tt : TT} {ta : TA} {me : DTE} {m mm : DTS} {mt : DTT} {ma : DTA}
theorem dsk_tl (h : DS X C st t m) (hl : PSs X lst tl) : DSK X C (st :: lst) tl t m := ⟨pss_cons h.ps hl, h.sim⟩
/-- .. if c: x[1].append(..) -/
theorem dss_npI (mask : List Bool) {K0 : Fg} (he : ∀ H B, DE X (xctx C H B) e te me) (hs : PE X e te → PS X st (tAsg te (gName i))) (ht : ∀ H B, DT X (xctx C H B) c tt mt) (ha : ∀ H B, DA X (xctx C H B) es ta ma)
    (hl : PT X c tt → PA X es ta → PSs X lst (tIfS tt (tKill K0 i rv ta) tNext)) (hm : PSs X lst (tIfS tt (tKill K0 i rv ta) tNext) → ∀ H B, DSK X (xctx C H B) rest (tIfS tt (tKill K0 i rv ta) tNext) tm mm) (hK : K0 = C.K := by rfl) :
    DSs X C (st :: rest) (tSeq (tAsg te (gName i)) (tSeq tm (tIfS tt (tKill K0 i rv ta) tNext))) (mNp i mask me mm mt ma) :=
  have hl' := hl (ht (fun _ => none) []).pt (ha (fun _ => none) []).pa
  ⟨pss_cons (hs (he (fun _ => none) []).pe) (hm hl' (fun _ => none) []).pss, by rw [hK]; exact sim_np (fun H B => (he H B).sim) (fun H B => (hm hl' H B).sim) (fun H B => (ht H B).sim) fun H B => (ha H B).sim⟩
end
/-! evaluator -/
section
variable {Γ Γ' Γ2 Γk : Env} {nx bk ct : Env → Prop} {rt : Res → Env → Prop} {d a : D} {ds : List D} {me m0 m1 : DTE} {mm : DTS} {mt : DTT} {ma : DTA} {i n : Nat} {mask : List Bool} {rs : List Res} {r0 r1 : Res}
def npn (n : Nat) (nx : Env → Prop) (Γk : Env) (mt : DTT) (ma : DTA) : Env → Prop := fun Γ3 => mt Γ3 fun b Γ4 => if b = true then mKill n nx Γk ma Γ4 else Γ4.length = n ∧ nx Γk
def npv (n : Nat) (p : Prop) (mt : DTT) : Env → Prop := fun Γ3 => mt Γ3 fun b Γ4 => b = false ∧ Γ4.length = n ∧ p
def npk (i : Nat) (mask : List Bool) (mm : DTS) (mt : DTT) (ma : DTA) (nx : Env → Prop) (rt : Res → Env → Prop) (Γ : Env) (r : Res) (Γ1 : Env) : Prop := Γ1 = boxE mask Γ ∧ ((∃ a ds, r = .np a ds ∧ ds.length < 100000 ∧
  mm ⟨npn Γ.length nx (killE mask Γ) mt ma, bxr Γ rt (killE mask Γ), fun _ => False, fun _ => False⟩ ((boxE mask Γ).set i (.bo (.tup [a, .lst ds])))) ∨ ∃ d, r = .val d ∧ mm ⟨npv Γ.length (nx (killE mask Γ)) mt, bxr Γ rt (killE mask Γ), fun _ => False, fun _ => False⟩ ((boxE mask Γ).set i (.bo d)))
theorem s_Np (h1 : freeE mask Γ = true) (h2 : mask[i]? = some true) (h3 : boxE mask Γ = Γ') (h : me Γ' fun r Γ1 => npk i mask mm mt ma nx rt Γ r Γ1) : mNp i mask me mm mt ma (.mk nx rt bk ct) Γ := by subst h3; exact ⟨h1, h2, h⟩
theorem s_npk (h3 : boxE mask Γ = Γ') (h5 : killE mask Γ = Γk) (h6 : Γ'.set i (.bo (.tup [a, .lst ds])) = Γ2) (h0 : ds.length < 100000) (h : mm (.mk (npn Γ.length nx Γk mt ma) (bxr Γ rt Γk) (fun _ => False) (fun _ => False)) Γ2) : npk i mask mm mt ma nx rt Γ (.np a ds) Γ' := by
  subst h3; subst h5; subst h6
  exact ⟨rfl, .inl ⟨a, ds, rfl, h0, h⟩⟩
theorem s_npkV (h3 : boxE mask Γ = Γ') (h5 : killE mask Γ = Γk) (h6 : Γ'.set i (.bo d) = Γ2) (h : mm (.mk (npv Γ.length (nx Γk) mt) (bxr Γ rt Γk) (fun _ => False) (fun _ => False)) Γ2) : npk i mask mm mt ma nx rt Γ (.val d) Γ' := by
  subst h3; subst h5; subst h6
  exact ⟨rfl, .inr ⟨d, rfl, h⟩⟩
def npw (n : Nat) (p : Prop) (b : Bool) (Γ : Env) : Prop := b = false ∧ Γ.length = n ∧ p
theorem s_npv {p : Prop} (h : mt Γ fun b Γ4 => npw n p b Γ4) : npv n p mt Γ := h
theorem s_npw {p : Prop} {b : Bool} (h0 : b = false) (h1 : Γ.length = n) (h : p) : npw n p b Γ := ⟨h0, h1, h⟩
def npe (n : Nat) (p : Prop) (Γ : Env) : Prop := Γ.length = n ∧ p
theorem s_npn (h : mt Γ fun b Γ4 => if b = true then mKill n nx Γk ma Γ4 else npe n (nx Γk) Γ4) : npn n nx Γk mt ma Γ := h
def klk (rs : List Res) (p : Prop) : Prop := (∃ d, dats rs = some [d]) ∧ p
theorem s_kill (h1 : Γ.length = n) (h : ma Γ fun rs _ => klk rs (nx Γk)) : mKill n nx Γk ma Γ := ⟨h1, h⟩
theorem s_klk {p : Prop} (h1 : dats rs = some [d]) (h : p) : klk rs p := ⟨⟨d, h1⟩, h⟩
theorem s_npe {p : Prop} (h1 : Γ.length = n) (h : p) : npe n p Γ := ⟨h1, h⟩
def rnp (rt : Res → Env → Prop) (r0 r1 : Res) (Γ2 : Env) : Prop := ∃ a ds Γ3, dat r0 = some a ∧ ((r1 = .fr (.lst ds) ∧ Γ3 = Γ2) ∨ ∃ i, r1 = .pl i ∧ Γ2[i]? = some (.ow (.lst ds)) ∧ Γ3 = Γ2.set i (.sh (.lst ds))) ∧ rt (.np a ds) Γ3
theorem s_RetNP (h : m0 Γ fun r0 Γ1 => m1 Γ1 fun r1 Γ2 => rnp rt r0 r1 Γ2) : mRetNP m0 m1 (.mk nx rt bk ct) Γ := h
theorem s_rnpF (h1 : dat r0 = some a) (h : rt (.np a ds) Γ) : rnp rt r0 (.fr (.lst ds)) Γ := ⟨a, ds, Γ, h1, .inl ⟨rfl, rfl⟩, h⟩
theorem s_rnpP (h1 : dat r0 = some a) (h2 : Γ[i]? = some (.ow (.lst ds))) (h3 : Γ.set i (.sh (.lst ds)) = Γ') (h : rt (.np a ds) Γ') : rnp rt r0 (.pl i) Γ := ⟨a, ds, Γ', h1, .inr ⟨i, rfl, h2, h3.symm⟩, h⟩
theorem d_np {ms : List Md} {Qd : Bool → D → List D → Prop} {es : List D} (h1 : iosD ms Γ = es) (h : Qd true (.tup [a, .lst ds]) es) : rtD ms Qd (.np a ds) Γ := by subst h1; exact h
theorem bag_frD {b : D} (h : BagD b) : frOf b = .fr b := by
  obtain ⟨_, _, _, _, rfl, -⟩ := h
  rfl
end
end DL
namespace LW
open PySem PySem.Spec PyProof.Rows L2 DL
/-! printed by wip/gen.py: the defs of the text, what their bodies read as, and that they keep it -/
def topS (i : Nat) : Stmt := PySem.Challenge.pw_ringcalls_k27_passes_listed_and_counted.main.body.getD i (.Pass ⟨0, 0, 0, 0⟩)
abbrev s_end_of : Stmt := topS 4
theorem sc_end_of : FnScope ["outcome", "place", "laps", "person"] ["outcome", "place"] (defScope s_end_of) := ⟨rfl, rfl, rfl, by decide +kernel, rfl, by decide +kernel, by decide +kernel⟩
abbrev s_pass_count : Stmt := topS 5
theorem sc_pass_count : FnScope ["outcome", "other", "size", "total", "one"] ["outcome"] (defScope s_pass_count) := ⟨rfl, rfl, rfl, by decide +kernel, rfl, by decide +kernel, by decide +kernel⟩
abbrev s_passed_by : Stmt := topS 6
theorem sc_passed_by : FnScope ["outcome", "one", "step", "size", "found", "other"] ["outcome", "one"] (defScope s_passed_by) := ⟨rfl, rfl, rfl, by decide +kernel, rfl, by decide +kernel, by decide +kernel⟩
abbrev s_passes : Stmt := topS 7
theorem sc_passes : FnScope ["outcome", "limit", "one", "other"] ["outcome", "limit"] (defScope s_passes) := ⟨rfl, rfl, rfl, by decide +kernel, rfl, by decide +kernel, by decide +kernel⟩
abbrev s_law_bag : Stmt := topS 9
theorem sc_law_bag : FnScope ["_law_script", "_law_cell"] ["_law_script"] (defScope s_law_bag) := ⟨rfl, rfl, rfl, by decide +kernel, rfl, by decide +kernel, by decide +kernel⟩
abbrev s_law_take : Stmt := topS 10
theorem sc_law_take : FnScope ["_law_bag_here", "_law_many", "_law_first", "_law_second", "_law_cell", "_law_value"] ["_law_bag_here", "_law_many"] (defScope s_law_take) := ⟨rfl, rfl, rfl, by decide +kernel, rfl, by decide +kernel, by decide +kernel⟩
abbrev s_law_alike : Stmt := topS 11
theorem sc_law_alike : FnScope ["_law_found", "_law_due"] ["_law_found", "_law_due"] (defScope s_law_alike) := ⟨rfl, rfl, rfl, by decide +kernel, rfl, by decide +kernel, by decide +kernel⟩
abbrev s_law_some_size : Stmt := topS 12
theorem sc_law_some_size : FnScope ["_law_bag_here", "_law_most"] ["_law_bag_here", "_law_most"] (defScope s_law_some_size) := ⟨rfl, rfl, rfl, by decide +kernel, rfl, by decide +kernel, by decide +kernel⟩
abbrev s_law_ranks : Stmt := topS 13
theorem sc_law_ranks : FnScope ["_law_bag_here", "_law_size", "_law_place", "_law_way", "_law_found", "_law_spot", "_law_few", "_law_great", "_law_rank"] ["_law_bag_here", "_law_size"] (defScope s_law_ranks) := ⟨rfl, rfl, rfl, by decide +kernel, rfl, by decide +kernel, by decide +kernel⟩
abbrev s_law_schedule : Stmt := topS 14
theorem sc_law_schedule : FnScope ["_law_bag_here", "_law_size", "_law_most", "_law_few", "_law_found", "_law_k", "_law_many", "_law_way", "_law_begin", "_law_gap"] ["_law_bag_here", "_law_size", "_law_most"] (defScope s_law_schedule) := ⟨rfl, rfl, rfl, by decide +kernel, rfl, by decide +kernel, by decide +kernel⟩
abbrev s_law_standing : Stmt := topS 15
theorem sc_law_standing : FnScope ["_law_size"] ["_law_size"] (defScope s_law_standing) := ⟨rfl, rfl, rfl, by decide +kernel, rfl, by decide +kernel, by decide +kernel⟩
abbrev s_law_called : Stmt := topS 16
theorem sc_law_called : FnScope ["_law_ranks_here", "_law_there", "_law_gap", "_law_size", "_law_first", "_law_second"] ["_law_ranks_here", "_law_there", "_law_gap"] (defScope s_law_called) := ⟨rfl, rfl, rfl, by decide +kernel, rfl, by decide +kernel, by decide +kernel⟩
abbrev s_law_run : Stmt := topS 17
theorem sc_law_run : FnScope ["_law_ranks_here", "_law_schedule_here", "_law_there", "_law_found", "_law_at", "_law_gap"] ["_law_ranks_here", "_law_schedule_here"] (defScope s_law_run) := ⟨rfl, rfl, rfl, by decide +kernel, rfl, by decide +kernel, by decide +kernel⟩
abbrev s_law_ended : Stmt := topS 18
theorem sc_law_ended : FnScope ["_law_there", "_law_size", "_law_found", "_law_place", "_law_person"] ["_law_there"] (defScope s_law_ended) := ⟨rfl, rfl, rfl, by decide +kernel, rfl, by decide +kernel, by decide +kernel⟩
abbrev s_law_passes : Stmt := topS 19
theorem sc_law_passes : FnScope ["_law_outcome", "_law_far", "_law_one", "_law_size", "_law_found", "_law_other", "_law_end"] ["_law_outcome"] (defScope s_law_passes) := ⟨rfl, rfl, rfl, by decide +kernel, rfl, by decide +kernel, by decide +kernel⟩
abbrev s_law_drawn_outcome : Stmt := topS 20
theorem sc_law_drawn_outcome : FnScope ["_law_bag_here", "_law_size", "_law_reach", "_law_person", "_law_left", "_law_found", "_law_total", "_law_lap"] ["_law_bag_here", "_law_size", "_law_reach"] (defScope s_law_drawn_outcome) := ⟨rfl, rfl, rfl, by decide +kernel, rfl, by decide +kernel, by decide +kernel⟩
abbrev s_law_counted : Stmt := topS 21
theorem sc_law_counted : FnScope ["_law_outcome", "_law_other", "_law_total", "_law_size", "_law_one", "_law_laps"] ["_law_outcome"] (defScope s_law_counted) := ⟨rfl, rfl, rfl, by decide +kernel, rfl, by decide +kernel, by decide +kernel⟩
abbrev s_law_listed : Stmt := topS 22
theorem sc_law_listed : FnScope ["_law_outcome", "_law_bound", "e"] ["_law_outcome", "_law_bound"] (defScope s_law_listed) := ⟨rfl, rfl, rfl, by decide +kernel, rfl, by decide +kernel, by decide +kernel⟩
abbrev s_law_right : Stmt := topS 23
theorem sc_law_right : FnScope ["_law_outcome", "_law_few", "_law_many", "_law_due", "_law_bound", "_law_limits", "_law_found"] ["_law_outcome", "_law_few"] (defScope s_law_right) := ⟨rfl, rfl, rfl, by decide +kernel, rfl, by decide +kernel, by decide +kernel⟩
abbrev s_law : Stmt := topS 24
theorem sc_law : FnScope ["_law_script", "_law_bag_here", "_law_turn", "_law_outcome", "_law_size", "_law_way"] ["_law_script"] (defScope s_law) := ⟨rfl, rfl, rfl, by decide +kernel, rfl, by decide +kernel, by decide +kernel⟩
section
variable {P : Program} {w : World} {K : PySem.W.Frag} {mg : Str → Option Value} {base : Heap}
abbrev s_TooMany___init__ : Stmt := inClass (topS 2) 0
theorem sc_TooMany___init__ : FnScope ["self", "limit"] ["self", "limit"] (defScope s_TooMany___init__) := ⟨rfl, rfl, rfl, by decide +kernel, rfl, by decide +kernel, by decide +kernel⟩
theorem walk_TooMany___init__ {f : Addr} {fd : FuncData} (F : Fun K "__init__" "TooMany.__init__" s_TooMany___init__ f fd) {C_RingError : Addr} (g_RingError : mg "RingError" = some (.ref C_RingError)) (rd : PySem.W.readsIn K C_RingError (.type "type") = true)
    (ga : PySem.W.specialIn K (.ref C_RingError) "__getattribute__" = some (some (.builtin "type.__getattribute__"))) (vV : PySem.W.findCls K (.ref C_RingError) (.type "type") "__init__" = some (.val (.builtin "ValueError.__init__"))) : FnG P w K mg base 1 f fd ["self", "limit"] (spXI K ["limit"]) := by
  refine fn_g F sc_TooMany___init__ (spXI_len rfl) fun cdv A outer s H vs Q E hg hr hsp => ?_
  have sc := sc_TooMany___init__
  exact ⟨_, pss_cons (ps_expr (pe_rinit (by rfl) g_RingError rd ga vV (pa_cons (pv 0) (pa_cons pe_str pa_nil)))) (pss_one (ps_ost (pv 0) (pv 1))), read_init1 hsp⟩
/-- end_of(outcome, place) -/
def m_end_of  : DTS :=
    (mSeqS (mAsg (mCB divmodD (mCons (mVar 1) (mCons (mCB lenD (mCons (mVar 0) mNil)) mNil))) (mgTup 2 (mgCons (mgName 2) (mgCons (mgName 3) mgNil))))
    (mRet (mOp addD (mOp ixD (mVar 0) (mVar 3)) (mOp mulD (mVar 2) (mCB lenD (mCons (mVar 0) mNil))))))
set_option maxHeartbeats 4000000 in
theorem walk_end_of {f : Addr} {fd : FuncData} (F : Fun K "end_of" "end_of" s_end_of f fd) (z_len : mg "len" = none) (z_divmod : mg "divmod" = none)
    {sd : DSp} (hv : ∀ ds Qd Ed, ds.length = 2 → sd ds Qd Ed → m_end_of (endsD [.S, .S] Qd) (startD ["outcome", "place", "laps", "person"] [.S, .S] ds)) :
    FnG P w K mg base 1 f fd ["outcome", "place"] (spD K [.S, .S] sd) := by
  refine fn_dm (N := ["outcome", "place", "laps", "person"]) F sc_end_of rfl hv fun cdv A outer s H0 vs E O H hg hr => ?_
  have sc := sc_end_of
  unfold m_end_of
  exact ⟨_, (ds_cons (ds_asg (de_divmod (by rfl) z_divmod (da_cons (de_var 1 (pv 1)) (da_cons (de_len (by rfl) z_len (da_cons (de_var 0 (pv 0)) da_nil)) da_nil))) (dg_tup rfl (dgs_cons (dg_name 2 (pg_name (i := 2) sc.nd rfl (by first | exact Or.inl rfl | exact Or.inr rfl))) (dgs_cons (dg_name 3 (pg_name (i := 3) sc.nd rfl (by first | exact Or.inl rfl | exact Or.inr rfl))) dgs_nil))))
    (ds_one (ds_ret (de_add (de_ix (de_var 0 (pv 0)) (de_var 3 (pv 3))) (de_mul (de_var 2 (pv 2)) (de_len (by rfl) z_len (da_cons (de_var 0 (pv 0)) da_nil)))))))⟩
/-- pass_count(outcome) -/
def m_pass_count  : DTS :=
    (mSeqS (mPar (mPCons (mCB lenD (mCons (mVar 0) mNil)) (mPCons (mC (.int 0)) mPNil)) (.sh 2 :: .sh 3 :: []))
    (mSeqS (mFor (mRng1 (mCons (mVar 2) mNil)) (mgName 1) (mFor (mRng1 (mCons (mVar 1) mNil)) (mgName 4) (mAug 3 (mCB absD (mCons (mOp fdivD (mOp subD (mOp ixD (mVar 0) (mVar 1)) (mOp ixD (mVar 0) (mVar 4))) (mVar 2)) mNil)) addI)))
    (mRet (mVar 3))))
set_option maxHeartbeats 4000000 in
theorem walk_pass_count {f : Addr} {fd : FuncData} (F : Fun K "pass_count" "pass_count" s_pass_count f fd) (z_range : mg "range" = none) (z_abs : mg "abs" = none) (z_len : mg "len" = none)
    {sd : DSp} (hv : ∀ ds Qd Ed, ds.length = 1 → sd ds Qd Ed → m_pass_count (endsD [.S] Qd) (startD ["outcome", "other", "size", "total", "one"] [.S] ds)) :
    FnG P w K mg base 1 f fd ["outcome"] (spD K [.S] sd) := by
  refine fn_dm (N := ["outcome", "other", "size", "total", "one"]) F sc_pass_count rfl hv fun cdv A outer s H0 vs E O H hg hr => ?_
  have sc := sc_pass_count
  unfold m_pass_count
  exact ⟨_, (ds_cons (ds_par2 (fun h => ps_par (i := 2) (j := 3) rfl sc.nd rfl rfl (by decide) rfl rfl h (by rfl)) (dp_cons (de_len (by rfl) z_len (da_cons (de_var 0 (pv 0)) da_nil)) (fun _ => (dp_cons de_int (fun _ => dp_nil)))) (sim_tsh (sim_tsh sim_tnil 3) 2))
    (ds_cons (ds_for PassesOwn.never rfl (di_rng1 (by rfl) z_range (da_cons (de_var 2 (pv 2)) da_nil)) (fun _ => (dg_name 1 (pg_name (i := 1) sc.nd rfl (by first | exact Or.inl rfl | exact Or.inr rfl)))) (fun _ => (ds_one (ds_for PassesOwn.never rfl (di_rng1 (by rfl) z_range (da_cons (de_var 1 (pv 1)) da_nil)) (fun _ => (dg_name 4 (pg_name (i := 4) sc.nd rfl (by first | exact Or.inl rfl | exact Or.inr rfl)))) (fun _ => (ds_one (ds_augAdd (de_abs (by rfl) z_abs (da_cons (de_fdiv (de_sub (de_ix (de_var 0 (pv 0)) (de_var 1 (pv 1))) (de_ix (de_var 0 (pv 0)) (de_var 4 (pv 4)))) (de_var 2 (pv 2))) da_nil)) (fun h => ps_aug (i := 3) sc.nd rfl (by first | exact Or.inl rfl | exact Or.inr rfl) h ip_add))))))))
    (ds_one (ds_ret (de_var 3 (pv 3))))))⟩
/-- passed_by(outcome, one) -/
def m_passed_by (sd_end_of : DSp) : DTS :=
    (mSeqS (mPar (mPCons (mCB lenD (mCons (mVar 0) mNil)) (mPCons (mLst mNil) mPNil)) (.sh 3 :: .ow 4 :: []))
    (mSeqS (mFor (mRng2 (mCons (mC (.int 1)) (mCons (mVar 3) mNil))) (mgName 2) (mSeqS (mSet 5 (mOp addD (mVar 1) (mVar 2)))
    (mWhile (mTest (mOp ltD (mCall [.S, .S] sd_end_of (mCons (mVar 0) (mCons (mVar 5) mNil))) (mOp ixD (mVar 0) (mVar 1)))) (mSeqS (mDrop (mMut appendD (mVar 4) (mCons (mVar 5) mNil)))
    (mAug 5 (mVar 3) addI)))))
    (mRet (mCB sortedD (mCons (mVar 4) mNil)))))
set_option maxHeartbeats 4000000 in
theorem walk_passed_by {f : Addr} {fd : FuncData} (F : Fun K "passed_by" "passed_by" s_passed_by f fd) {sd_end_of : DSp}
    {f_end_of : Addr} {fd_end_of : FuncData} (F_end_of : FnG P w K mg base 1 f_end_of fd_end_of ["outcome", "place"] (spD K [.S, .S] sd_end_of)) (g_end_of : mg "end_of" = some (.ref f_end_of)) (k_end_of : PySem.W.keepIn K (.ref f_end_of) = true) (b_end_of : Binds K fd_end_of ["outcome", "place"] []) (z_sorted : mg "sorted" = none) (z_range : mg "range" = none) (z_len : mg "len" = none)
    {sd : DSp} (hv : ∀ ds Qd Ed, ds.length = 2 → sd ds Qd Ed → m_passed_by sd_end_of (endsD [.S, .S] Qd) (startD ["outcome", "one", "step", "size", "found", "other"] [.S, .S] ds)) :
    FnG P w K mg base 2 f fd ["outcome", "one"] (spD K [.S, .S] sd) := by
  refine fn_dm (N := ["outcome", "one", "step", "size", "found", "other"]) F sc_passed_by rfl hv fun cdv A outer s H0 vs E O H hg hr => ?_
  have sc := sc_passed_by
  unfold m_passed_by
  exact ⟨_, (ds_cons (ds_par2 (fun h => ps_par (i := 3) (j := 4) rfl sc.nd rfl rfl (by decide) rfl rfl h (by rfl)) (dp_cons (de_len (by rfl) z_len (da_cons (de_var 0 (pv 0)) da_nil)) (fun _ => (dp_cons (de_lst da_nil) (fun _ => dp_nil)))) (sim_tsh (sim_tow sim_tnil 4) 3))
    (ds_cons (ds_for PassesOwn.never rfl (di_rng2 (by rfl) z_range (da_cons de_int (da_cons (de_var 3 (pv 3)) da_nil))) (fun _ => (dg_name 2 (pg_name (i := 2) sc.nd rfl (by first | exact Or.inl rfl | exact Or.inr rfl)))) (fun _ => (ds_cons (ds_set (de_add (de_var 1 (pv 1)) (de_var 2 (pv 2))) (fun h => ps_set (i := 5) sc.nd rfl (by first | exact Or.inl rfl | exact Or.inr rfl) h))
    (ds_one (ds_while PassesOwn.never (dt_cmp op_lt sim_lt (de_call F_end_of hg (hr.mono (by decide)) (by rfl) g_end_of k_end_of b_end_of (da_cons (de_var 0 (pv 0)) (da_cons (de_var 5 (pv 5)) da_nil))) (de_ix (de_var 0 (pv 0)) (de_var 1 (pv 1))) (nomark _)) (ds_cons (ds_expr (de_append (fun x y => pe_bm PySem.F.plainAttrs_list PySem.F.slot_list_append PySem.F.type_list_append mt_append x y) (de_var 4 (pv 4)) (da_cons (de_var 5 (pv 5)) da_nil)))
    (ds_one (ds_augAdd (de_var 3 (pv 3)) (fun h => ps_aug (i := 5) sc.nd rfl (by first | exact Or.inl rfl | exact Or.inr rfl) h ip_add)))))))))
    (ds_one (ds_ret (de_sorted (by rfl) z_sorted (da_cons (de_var 4 (pv 4)) da_nil))))))⟩
/-- passes(outcome, limit) -/
def m_passes (C_TooMany : Addr) (sd_passed_by sd_pass_count : DSp) (Wd : Dwx) : DTS :=
    (mSeqS (mIfS (mTest (mOp gtD (mCall [.S] sd_pass_count (mCons (mVar 0) mNil)) (mVar 1))) (mRaise Wd "TooMany" ["limit"] (mCons (mVar 1) mNil)) mNext)
    (mRet (mComp2 (mRng1 (mCons (mCB lenD (mCons (mVar 0) mNil)) mNil)) (mgName 2) mYes (mSeq (mCall [.S, .S] sd_passed_by (mCons (mVar 0) (mCons (mVar 2) mNil)))) (mgName 3) mYes (mTup (mCons (mVar 2) (mCons (mVar 3) mNil))) [2, 3] [3])))
set_option maxHeartbeats 4000000 in
theorem walk_passes {f : Addr} {fd : FuncData} (F : Fun K "passes" "passes" s_passes f fd) {C_TooMany : Addr} {sd_passed_by sd_pass_count : DSp}
    {f_passed_by : Addr} {fd_passed_by : FuncData} (F_passed_by : FnG P w K mg base 2 f_passed_by fd_passed_by ["outcome", "one"] (spD K [.S, .S] sd_passed_by)) (g_passed_by : mg "passed_by" = some (.ref f_passed_by)) (k_passed_by : PySem.W.keepIn K (.ref f_passed_by) = true) (b_passed_by : Binds K fd_passed_by ["outcome", "one"] [])
    {f_pass_count : Addr} {fd_pass_count : FuncData} (F_pass_count : FnG P w K mg base 1 f_pass_count fd_pass_count ["outcome"] (spD K [.S] sd_pass_count)) (g_pass_count : mg "pass_count" = some (.ref f_pass_count)) (k_pass_count : PySem.W.keepIn K (.ref f_pass_count) = true) (b_pass_count : Binds K fd_pass_count ["outcome"] []) {f_TooMany___init__ : Addr} {fd_TooMany___init__ : FuncData} (F_TooMany___init__ : FnG P w K mg base 1 f_TooMany___init__ fd_TooMany___init__ ["self", "limit"] (spXI K ["limit"])) (b_TooMany___init__ : Binds K fd_TooMany___init__ ["self", "limit"] []) (xc_TooMany : XcK K C_TooMany f_TooMany___init__ ["limit"]) (xn_TooMany : XNm K "TooMany" C_TooMany) (g_TooMany : mg "TooMany" = some (.ref C_TooMany)) (z_range : mg "range" = none) (z_len : mg "len" = none)
    {sd : DSp} (hv : ∀ ds Qd Ed, ds.length = 2 → sd ds Qd Ed → m_passes C_TooMany sd_passed_by sd_pass_count (wEnd [.S, .S] Ed) (endsD [.S, .S] Qd) (startD ["outcome", "limit", "one", "other"] [.S, .S] ds)) :
    FnG P w K mg base 3 f fd ["outcome", "limit"] (spD K [.S, .S] sd) := by
  refine fn_dx (N := ["outcome", "limit", "one", "other"]) F sc_passes rfl hv fun cdv A outer s H0 vs E O Wd hg hr po tk wl => ?_
  have sc := sc_passes
  unfold m_passes
  exact ⟨_, (ds_cons (ds_if (dt_cmp op_gt sim_gt (de_call F_pass_count hg (hr.mono (by decide)) (by rfl) g_pass_count k_pass_count b_pass_count (da_cons (de_var 0 (pv 0)) da_nil)) (de_var 1 (pv 1)) (nomark _)) (ds_one (ds_raise (n := "TooMany") (fs := ["limit"]) rfl tk wl (fun h => pmk_x xc_TooMany F_TooMany___init__ hg (hr.mono (by decide)) b_TooMany___init__ (by rfl) g_TooMany h.pa) (da_cons (de_var 1 (pv 1)) da_nil) xn_TooMany)) ds_nil)
    (ds_one (ds_ret (de_comp2 (own := [("one", 2), ("other", 3)]) (vs1 := [3]) ⟨rfl, sc.nd, (di_rng1 (by rfl) z_range (da_cons (de_len (by rfl) z_len (da_cons (de_var 0 (pv 0)) da_nil)) da_nil)), blkOk_by (own := [("one", 2), ("other", 3)]) (N := ["outcome", "limit", "one", "other"]) (sc := defScope s_passes) (by decide +kernel), (by simp), (fun _ _ _ _ _ _ => (dg_name 2 (pg_name (i := 2) sc.nd rfl (by first | exact Or.inl rfl | exact Or.inr rfl)))), (own_name (by simp)), mono_name, (fun _ _ _ _ _ _ => df_nil), (fun _ _ _ _ _ _ => (di_seq (de_call F_passed_by hg (hr.mono (by decide)) (by rfl) g_passed_by k_passed_by b_passed_by (da_cons (de_var 0 (pv 0)) (da_cons (de_var 2 (pv 2)) da_nil))))), (fun _ _ _ _ _ _ => (dg_name 3 (pg_name (i := 3) sc.nd rfl (by first | exact Or.inl rfl | exact Or.inr rfl)))), (own_name (by simp)), mono_name, (fun _ _ _ _ _ _ => df_nil), (fun _ _ _ _ _ _ => (de_tup (da_cons (de_var 2 (pv 2)) (da_cons (de_var 3 (pv 3)) da_nil))))⟩))))⟩
/-- _law_bag(_law_script) -/
def m_law_bag  : DTS :=
    (mRet (mLst (mCons (mC (.int 0)) (mCons (mC (.int 1234567891)) (mCons (mC (.int 0)) (mCons (mComp (mSeq (mSl slD (mVar 0) mNoP (mPart (mC (.int 63))))) (mgName 1) mYes (mCB absD (mCons (mVar 1) mNil)) [1]) mNil))))))
set_option maxHeartbeats 4000000 in
theorem walk_law_bag {f : Addr} {fd : FuncData} (F : Fun K "_law_bag" "_law_bag" s_law_bag f fd) (z_abs : mg "abs" = none)
    {sd : DSp} (hv : ∀ ds Qd Ed, ds.length = 1 → sd ds Qd Ed → m_law_bag (endsD [.S] Qd) (startD ["_law_script", "_law_cell"] [.S] ds)) :
    FnG P w K mg base 1 f fd ["_law_script"] (spD K [.S] sd) := by
  refine fn_dm (N := ["_law_script", "_law_cell"]) F sc_law_bag rfl hv fun cdv A outer s H0 vs E O H hg hr => ?_
  have sc := sc_law_bag
  unfold m_law_bag
  exact ⟨_, (ds_one (ds_ret (de_lst (da_cons de_int (da_cons de_int (da_cons de_int (da_cons (de_comp (own := [("_law_cell", 1)]) ⟨rfl, sc.nd, (di_seq (de_sl (de_var 0 (pv 0)) do_none (do_some de_int))), blkOk_by (own := [("_law_cell", 1)]) (N := ["_law_script", "_law_cell"]) (sc := defScope s_law_bag) (by decide +kernel), (fun _ _ _ _ _ _ => (dg_name 1 (pg_name (i := 1) sc.nd rfl (by first | exact Or.inl rfl | exact Or.inr rfl)))), (own_name (by simp)), mono_name, (fun _ _ _ _ _ _ => df_nil), (fun _ _ _ _ _ _ => (de_abs (by rfl) z_abs (da_cons (de_var 1 (pv 1)) da_nil)))⟩) da_nil)))))))⟩
/-- _law_take(_law_bag_here, _law_many) -/
def m_law_take  : DTS :=
    (mSeqS (mIfS (mTest (mOp eqD (mOp ixD (mVar 0) (mC (.int 0))) (mC (.int 0)))) (mSeqS (mSet 4 (mC (.int 0)))
    (mSeqS (mIfS (mTest (mOp ltD (mOp ixD (mVar 0) (mC (.int 2))) (mCB lenD (mCons (mOp ixD (mVar 0) (mC (.int 3))) mNil)))) (mSet 4 (mOp ixD (mOp ixD (mVar 0) (mC (.int 3))) (mOp ixD (mVar 0) (mC (.int 2))))) mNext)
    (mSeqS (mAugS (mVar 0) (mC (.int 2)) (mC (.int 1)) addI)
    (mSeqS (mIfS (mTest (mOp geD (mVar 4) (mC (.int 1000000000000000000)))) (mAsg (mVar 4) (mgSub (mVar 0) (mC (.int 0)) stD)) mNext)
    (mAsg (mOp modD (mOp addD (mOp addD (mOp mulD (mOp ixD (mVar 0) (mC (.int 1))) (mC (.int 48271))) (mOp modD (mVar 4) (mC (.int 2147483647)))) (mOp mulD (mC (.int 7919)) (mOp ixD (mVar 0) (mC (.int 2))))) (mC (.int 2147483647))) (mgSub (mVar 0) (mC (.int 1)) stD)))))) mNext)
    (mSeqS (mIfS (mTest (mOp gtD (mOp ixD (mVar 0) (mC (.int 0))) (mC (.int 0)))) (mSeqS (mSet 5 (mOp modD (mOp ixD (mVar 0) (mC (.int 0))) (mVar 1)))
    (mSeqS (mAsg (mOp fdivD (mOp ixD (mVar 0) (mC (.int 0))) (mVar 1)) (mgSub (mVar 0) (mC (.int 0)) stD))
    (mRet (mVar 5)))) mNext)
    (mSeqS (mSet 2 (mOp modD (mOp mulD (mOp addD (mOp ixD (mVar 0) (mC (.int 1))) (mC (.int 1))) (mC (.int 39373))) (mC (.int 1000000007))))
    (mSeqS (mSet 3 (mOp modD (mOp mulD (mOp modD (mOp mulD (mVar 2) (mVar 2)) (mC (.int 998244353))) (mC (.int 30011))) (mC (.int 998244353))))
    (mSeqS (mIfS (mTest (mOp gtD (mVar 1) (mC (.int 1000000)))) (mRet (mOp modD (mOp addD (mOp mulD (mVar 3) (mC (.int 1000000007))) (mVar 2)) (mVar 1))) mNext)
    (mRet (mOp modD (mOp fdivD (mVar 3) (mC (.int 7))) (mVar 1))))))))
set_option maxHeartbeats 4000000 in
theorem walk_law_take {f : Addr} {fd : FuncData} (F : Fun K "_law_take" "_law_take" s_law_take f fd) (z_len : mg "len" = none)
    {sd : DSp} (hv : ∀ ds Qd Ed, ds.length = 2 → sd ds Qd Ed → m_law_take (endsD [.M, .S] Qd) (startD ["_law_bag_here", "_law_many", "_law_first", "_law_second", "_law_cell", "_law_value"] [.M, .S] ds)) :
    FnG P w K mg base 1 f fd ["_law_bag_here", "_law_many"] (spD K [.M, .S] sd) := by
  refine fn_dm (N := ["_law_bag_here", "_law_many", "_law_first", "_law_second", "_law_cell", "_law_value"]) F sc_law_take rfl hv fun cdv A outer s H0 vs E O H hg hr => ?_
  have sc := sc_law_take
  unfold m_law_take
  exact ⟨_, (ds_cons (ds_if (dt_eq hr.units (de_ix (de_var 0 (pv 0)) de_int) de_int) (ds_cons (ds_set de_int (fun h => ps_set (i := 4) sc.nd rfl (by first | exact Or.inl rfl | exact Or.inr rfl) h))
    (ds_cons (ds_if (dt_cmp op_lt sim_lt (de_ix (de_var 0 (pv 0)) de_int) (de_len (by rfl) z_len (da_cons (de_ix (de_var 0 (pv 0)) de_int) da_nil)) (nomark _)) (ds_one (ds_set (de_ix (de_ix (de_var 0 (pv 0)) de_int) (de_ix (de_var 0 (pv 0)) de_int)) (fun h => ps_set (i := 4) sc.nd rfl (by first | exact Or.inl rfl | exact Or.inr rfl) h))) ds_nil)
    (ds_cons (ds_augSA (fun a b c => ps_augS a b get_listG c ip_add set_list) (de_var 0 (pv 0)) de_int de_int)
    (ds_cons (ds_if (dt_cmp op_ge sim_ge (de_var 4 (pv 4)) de_int (nomark _)) (ds_one (ds_asg (de_var 4 (pv 4)) (dg_sub (fun a b => pg_sub a b set_list) (de_var 0 (pv 0)) de_int))) ds_nil)
    (ds_one (ds_asg (de_mod (de_add (de_add (de_mul (de_ix (de_var 0 (pv 0)) de_int) de_int) (de_mod (de_var 4 (pv 4)) de_int)) (de_mul de_int (de_ix (de_var 0 (pv 0)) de_int))) de_int) (dg_sub (fun a b => pg_sub a b set_list) (de_var 0 (pv 0)) de_int))))))) ds_nil)
    (ds_cons (ds_if (dt_cmp op_gt sim_gt (de_ix (de_var 0 (pv 0)) de_int) de_int (nomark _)) (ds_cons (ds_set (de_mod (de_ix (de_var 0 (pv 0)) de_int) (de_var 1 (pv 1))) (fun h => ps_set (i := 5) sc.nd rfl (by first | exact Or.inl rfl | exact Or.inr rfl) h))
    (ds_cons (ds_asg (de_fdiv (de_ix (de_var 0 (pv 0)) de_int) (de_var 1 (pv 1))) (dg_sub (fun a b => pg_sub a b set_list) (de_var 0 (pv 0)) de_int))
    (ds_one (ds_ret (de_var 5 (pv 5)))))) ds_nil)
    (ds_cons (ds_set (de_mod (de_mul (de_add (de_ix (de_var 0 (pv 0)) de_int) de_int) de_int) de_int) (fun h => ps_set (i := 2) sc.nd rfl (by first | exact Or.inl rfl | exact Or.inr rfl) h))
    (ds_cons (ds_set (de_mod (de_mul (de_mod (de_mul (de_var 2 (pv 2)) (de_var 2 (pv 2))) de_int) de_int) de_int) (fun h => ps_set (i := 3) sc.nd rfl (by first | exact Or.inl rfl | exact Or.inr rfl) h))
    (ds_cons (ds_if (dt_cmp op_gt sim_gt (de_var 1 (pv 1)) de_int (nomark _)) (ds_one (ds_ret (de_mod (de_add (de_mul (de_var 3 (pv 3)) de_int) (de_var 2 (pv 2))) (de_var 1 (pv 1))))) ds_nil)
    (ds_one (ds_ret (de_mod (de_fdiv (de_var 3 (pv 3)) de_int) (de_var 1 (pv 1))))))))))⟩
/-- _law_alike(_law_found, _law_due) -/
def m_law_alike  : DTS :=
    (mRet (mAndV (mOp eqD (mVar 0) (mVar 1)) (mOp eqD (mCB reprD (mCons (mVar 0) mNil)) (mCB reprD (mCons (mVar 1) mNil)))))
set_option maxHeartbeats 4000000 in
theorem walk_law_alike {f : Addr} {fd : FuncData} (F : Fun K "_law_alike" "_law_alike" s_law_alike f fd) (z_repr : mg "repr" = none)
    {sd : DSp} (hv : ∀ ds Qd Ed, ds.length = 2 → sd ds Qd Ed → m_law_alike (endsD [.S, .S] Qd) (startD ["_law_found", "_law_due"] [.S, .S] ds)) :
    FnG P w K mg base 1 f fd ["_law_found", "_law_due"] (spD K [.S, .S] sd) := by
  refine fn_dm (N := ["_law_found", "_law_due"]) F sc_law_alike rfl hv fun cdv A outer s H0 vs E O H hg hr => ?_
  have sc := sc_law_alike
  unfold m_law_alike
  exact ⟨_, (ds_one (ds_ret (de_and (de_eq hr.units (de_var 0 (pv 0)) (de_var 1 (pv 1))) (de_one (de_eq hr.units (de_repr hg (room100 hr) (by rfl) z_repr (da_cons (de_var 0 (pv 0)) da_nil)) (de_repr hg (room100 hr) (by rfl) z_repr (da_cons (de_var 1 (pv 1)) da_nil)))))))⟩
/-- _law_some_size(_law_bag_here, _law_most) -/
def m_law_some_size (sd_law_take : DSp) : DTS :=
    (mRet (mOp addD (mC (.int 2)) (mCall [.M, .S] sd_law_take (mCons (mVar 0) (mCons (mOp ixD (mLst (mCons (mOp subD (mCB minD (mCons (mC (.int 4)) (mCons (mVar 1) mNil))) (mC (.int 1))) (mCons (mOp subD (mVar 1) (mC (.int 1))) mNil))) (mCall [.M, .S] sd_law_take (mCons (mVar 0) (mCons (mC (.int 2)) mNil)))) mNil)))))
set_option maxHeartbeats 4000000 in
theorem walk_law_some_size {f : Addr} {fd : FuncData} (F : Fun K "_law_some_size" "_law_some_size" s_law_some_size f fd) {sd_law_take : DSp}
    {f_law_take : Addr} {fd_law_take : FuncData} (F_law_take : FnG P w K mg base 1 f_law_take fd_law_take ["_law_bag_here", "_law_many"] (spD K [.M, .S] sd_law_take)) (g_law_take : mg "_law_take" = some (.ref f_law_take)) (k_law_take : PySem.W.keepIn K (.ref f_law_take) = true) (b_law_take : Binds K fd_law_take ["_law_bag_here", "_law_many"] []) (z_min : mg "min" = none)
    {sd : DSp} (hv : ∀ ds Qd Ed, ds.length = 2 → sd ds Qd Ed → m_law_some_size sd_law_take (endsD [.M, .S] Qd) (startD ["_law_bag_here", "_law_most"] [.M, .S] ds)) :
    FnG P w K mg base 2 f fd ["_law_bag_here", "_law_most"] (spD K [.M, .S] sd) := by
  refine fn_dm (N := ["_law_bag_here", "_law_most"]) F sc_law_some_size rfl hv fun cdv A outer s H0 vs E O H hg hr => ?_
  have sc := sc_law_some_size
  unfold m_law_some_size
  exact ⟨_, (ds_one (ds_ret (de_add de_int (de_call F_law_take hg (hr.mono (by decide)) (by rfl) g_law_take k_law_take b_law_take (da_cons (de_var 0 (pv 0)) (da_cons (de_ix (de_lst (da_cons (de_sub (de_min rfl (by rfl) z_min (da_cons de_int (da_cons (de_var 1 (pv 1)) da_nil))) de_int) (da_cons (de_sub (de_var 1 (pv 1)) de_int) da_nil))) (de_call F_law_take hg (hr.mono (by decide)) (by rfl) g_law_take k_law_take b_law_take (da_cons (de_var 0 (pv 0)) (da_cons de_int da_nil)))) da_nil))))))⟩
/-- _law_ranks(_law_bag_here, _law_size) -/
def m_law_ranks (sd_law_take : DSp) : DTS :=
    (mSeqS (mPar (mPCons (mCall [.M, .S] sd_law_take (mCons (mVar 0) (mCons (mC (.int 6)) mNil))) (mPCons (mLst mNil) mPNil)) (.sh 3 :: .ow 4 :: []))
    (mSeqS (mFor (mRng1 (mCons (mVar 1) mNil)) (mgName 2) (mSeqS (mPar (mPCons (mCall [.M, .S] sd_law_take (mCons (mVar 0) (mCons (mC (.int 3)) mNil))) (mPCons (mOp subD (mCall [.M, .S] sd_law_take (mCons (mVar 0) (mCons (mOp powD (mC (.int 10)) (mC (.int 12))) mNil))) (mOp mulD (mC (.int 5)) (mOp powD (mC (.int 10)) (mC (.int 11))))) mPNil)) (.sh 6 :: .sh 7 :: []))
    (mDrop (mMut appendD (mVar 4) (mCons (mOp ixD (mLst (mCons (mVar 6) (mCons (mOp subD (mOp mulD (mVar 6) (mC (.int 3))) (mC (.int 4))) (mCons (mVar 7) (mCons (mOp subD (mC (.int 0)) (mVar 2)) (mCons (mOp addD (mVar 2) (mVar 6)) (mCons (mOp subD (mOp powD (mC (.int 10)) (mC (.int 39))) (mOp mulD (mVar 2) (mVar 6))) mNil))))))) (mVar 3)) mNil)))))
    (mSeqS (mIfS (mAnd (mTest (mOp eqD (mVar 3) (mC (.int 0)))) (mTest (mOp eqD (mCall [.M, .S] sd_law_take (mCons (mVar 0) (mCons (mC (.int 2)) mNil))) (mC (.int 0))))) (mSetO 4 (mComp (mSeq (mVar 4)) (mgName 8) mYes (mCB intD (mCons (mOp gtD (mVar 8) (mC (.int 0))) mNil)) [8])) mNext)
    (mSeqS (mIfS (mTest (mOp gtD (mVar 3) (mC (.int 1)))) (mSeqS (mSet 5 (mCall [.M, .S] sd_law_take (mCons (mVar 0) (mCons (mVar 1) mNil))))
    (mSetO 4 (mOp addD (mSl slD (mVar 4) (mPart (mVar 5)) mNoP) (mSl slD (mVar 4) mNoP (mPart (mVar 5)))))) mNext)
    (mRet (mVar 4))))))
set_option maxHeartbeats 4000000 in
theorem walk_law_ranks {f : Addr} {fd : FuncData} (F : Fun K "_law_ranks" "_law_ranks" s_law_ranks f fd) {sd_law_take : DSp}
    {f_law_take : Addr} {fd_law_take : FuncData} (F_law_take : FnG P w K mg base 1 f_law_take fd_law_take ["_law_bag_here", "_law_many"] (spD K [.M, .S] sd_law_take)) (g_law_take : mg "_law_take" = some (.ref f_law_take)) (k_law_take : PySem.W.keepIn K (.ref f_law_take) = true) (b_law_take : Binds K fd_law_take ["_law_bag_here", "_law_many"] []) (z_int : mg "int" = none) (z_range : mg "range" = none)
    {sd : DSp} (hv : ∀ ds Qd Ed, ds.length = 2 → sd ds Qd Ed → m_law_ranks sd_law_take (endsD [.M, .S] Qd) (startD ["_law_bag_here", "_law_size", "_law_place", "_law_way", "_law_found", "_law_spot", "_law_few", "_law_great", "_law_rank"] [.M, .S] ds)) :
    FnG P w K mg base 2 f fd ["_law_bag_here", "_law_size"] (spD K [.M, .S] sd) := by
  refine fn_dm (N := ["_law_bag_here", "_law_size", "_law_place", "_law_way", "_law_found", "_law_spot", "_law_few", "_law_great", "_law_rank"]) F sc_law_ranks rfl hv fun cdv A outer s H0 vs E O H hg hr => ?_
  have sc := sc_law_ranks
  unfold m_law_ranks
  exact ⟨_, (ds_cons (ds_par2 (fun h => ps_par (i := 3) (j := 4) rfl sc.nd rfl rfl (by decide) rfl rfl h (by rfl)) (dp_cons (de_call F_law_take hg (hr.mono (by decide)) (by rfl) g_law_take k_law_take b_law_take (da_cons (de_var 0 (pv 0)) (da_cons de_int da_nil))) (fun _ => (dp_cons (de_lst da_nil) (fun _ => dp_nil)))) (sim_tsh (sim_tow sim_tnil 4) 3))
    (ds_cons (ds_for PassesOwn.never rfl (di_rng1 (by rfl) z_range (da_cons (de_var 1 (pv 1)) da_nil)) (fun _ => (dg_name 2 (pg_name (i := 2) sc.nd rfl (by first | exact Or.inl rfl | exact Or.inr rfl)))) (fun _ => (ds_cons (ds_par2 (fun h => ps_par (i := 6) (j := 7) rfl sc.nd rfl rfl (by decide) rfl rfl h (by rfl)) (dp_cons (de_call F_law_take hg (hr.mono (by decide)) (by rfl) g_law_take k_law_take b_law_take (da_cons (de_var 0 (pv 0)) (da_cons de_int da_nil))) (fun _ => (dp_cons (de_sub (de_call F_law_take hg (hr.mono (by decide)) (by rfl) g_law_take k_law_take b_law_take (da_cons (de_var 0 (pv 0)) (da_cons (de_pow de_int de_int) da_nil))) (de_mul de_int (de_pow de_int de_int))) (fun _ => dp_nil)))) (sim_tsh (sim_tsh sim_tnil 7) 6))
    (ds_one (ds_expr (de_append (fun x y => pe_bm PySem.F.plainAttrs_list PySem.F.slot_list_append PySem.F.type_list_append mt_append x y) (de_var 4 (pv 4)) (da_cons (de_ix (de_lst (da_cons (de_var 6 (pv 6)) (da_cons (de_sub (de_mul (de_var 6 (pv 6)) de_int) de_int) (da_cons (de_var 7 (pv 7)) (da_cons (de_sub de_int (de_var 2 (pv 2))) (da_cons (de_add (de_var 2 (pv 2)) (de_var 6 (pv 6))) (da_cons (de_sub (de_pow de_int de_int) (de_mul (de_var 2 (pv 2)) (de_var 6 (pv 6)))) da_nil))))))) (de_var 3 (pv 3))) da_nil)))))))
    (ds_cons (ds_if (dw_pt (dw_and (dt_eq hr.units (de_var 3 (pv 3)) de_int) (dw_and1 (dt_eq hr.units (de_call F_law_take hg (hr.mono (by decide)) (by rfl) g_law_take k_law_take b_law_take (da_cons (de_var 0 (pv 0)) (da_cons de_int da_nil))) de_int)))) (ds_one (ds_setCO (i := 4) (own := [("_law_rank", 8)]) ⟨rfl, sc.nd, (di_seq (de_var 4 (pv 4))), blkOk_by (own := [("_law_rank", 8)]) (N := ["_law_bag_here", "_law_size", "_law_place", "_law_way", "_law_found", "_law_spot", "_law_few", "_law_great", "_law_rank"]) (sc := defScope s_law_ranks) (by decide +kernel), (fun _ _ _ _ _ _ => (dg_name 8 (pg_name (i := 8) sc.nd rfl (by first | exact Or.inl rfl | exact Or.inr rfl)))), (own_name (by simp)), mono_name, (fun _ _ _ _ _ _ => df_nil), (fun _ _ _ _ _ _ => (de_intc (by rfl) z_int (da_cons (de_gt (de_var 8 (pv 8)) de_int) da_nil)))⟩ rfl rfl (sw_true rfl rfl rfl (by decide +kernel)))) ds_nil)
    (ds_cons (ds_if (dt_cmp op_gt sim_gt (de_var 3 (pv 3)) de_int (nomark _)) (ds_cons (ds_set (de_call F_law_take hg (hr.mono (by decide)) (by rfl) g_law_take k_law_take b_law_take (da_cons (de_var 0 (pv 0)) (da_cons (de_var 1 (pv 1)) da_nil))) (fun h => ps_set (i := 5) sc.nd rfl (by first | exact Or.inl rfl | exact Or.inr rfl) h))
    (ds_one (ds_setO (de_add (de_sl (de_var 4 (pv 4)) (do_some (de_var 5 (pv 5))) do_none) (de_sl (de_var 4 (pv 4)) do_none (do_some (de_var 5 (pv 5))))) (fun h => ps_set (i := 4) sc.nd rfl (by first | exact Or.inl rfl | exact Or.inr rfl) h)))) ds_nil)
    (ds_one (ds_ret (de_var 4 (pv 4))))))))⟩
/-- _law_schedule(_law_bag_here, _law_size, _law_most) -/
def m_law_schedule (sd_law_take : DSp) : DTS :=
    (mSeqS (mPar (mPCons (mCall [.M, .S] sd_law_take (mCons (mVar 0) (mCons (mOp addD (mVar 2) (mC (.int 1))) mNil))) (mPCons (mCall [.M, .S] sd_law_take (mCons (mVar 0) (mCons (mC (.int 6)) mNil))) (mPCons (mCall [.M, .S] sd_law_take (mCons (mVar 0) (mCons (mVar 1) mNil))) mPNil))) (.sh 6 :: .sh 7 :: .sh 8 :: []))
    (mSeqS (mSet 3 (mLst (mCons (mCall [.M, .S] sd_law_take (mCons (mVar 0) (mCons (mVar 1) mNil))) (mCons (mCall [.M, .S] sd_law_take (mCons (mVar 0) (mCons (mVar 1) mNil))) mNil))))
    (mSeqS (mSetO 4 (mLst mNil))
    (mSeqS (mFor (mRng1 (mCons (mVar 6) mNil)) (mgName 5) (mSeqS (mSet 9 (mOp ixD (mLst (mCons (mCall [.M, .S] sd_law_take (mCons (mVar 0) (mCons (mVar 1) mNil))) (mCons (mOp ixD (mVar 3) (mOp modD (mVar 5) (mC (.int 2)))) (mCons (mOp modD (mOp addD (mVar 8) (mVar 5)) (mVar 1)) (mCons (mOp modD (mOp subD (mVar 8) (mVar 5)) (mVar 1)) mNil))))) (mCB minD (mCons (mVar 7) (mCons (mC (.int 3)) mNil)))))
    (mSeqS (mIfS (mTest (mOp eqD (mVar 7) (mC (.int 4)))) (mSet 9 (mOp modD (mCB absD (mCons (mOp addD (mOp subD (mOp modD (mOp addD (mVar 8) (mVar 5)) (mOp subD (mOp mulD (mC (.int 2)) (mVar 1)) (mC (.int 2)))) (mVar 1)) (mC (.int 1))) mNil)) (mVar 1))) mNext)
    (mSeqS (mIfS (mTest (mOp eqD (mVar 7) (mC (.int 5)))) (mSet 9 (mCall [.M, .S] sd_law_take (mCons (mVar 0) (mCons (mCB maxD (mCons (mC (.int 1)) (mCons (mOp subD (mVar 1) (mC (.int 1))) mNil))) mNil)))) mNext)
    (mDrop (mMut appendD (mVar 4) (mCons (mVar 9) mNil)))))))
    (mRet (mVar 4))))))
set_option maxHeartbeats 4000000 in
theorem walk_law_schedule {f : Addr} {fd : FuncData} (F : Fun K "_law_schedule" "_law_schedule" s_law_schedule f fd) {sd_law_take : DSp}
    {f_law_take : Addr} {fd_law_take : FuncData} (F_law_take : FnG P w K mg base 1 f_law_take fd_law_take ["_law_bag_here", "_law_many"] (spD K [.M, .S] sd_law_take)) (g_law_take : mg "_law_take" = some (.ref f_law_take)) (k_law_take : PySem.W.keepIn K (.ref f_law_take) = true) (b_law_take : Binds K fd_law_take ["_law_bag_here", "_law_many"] []) (z_range : mg "range" = none) (z_max : mg "max" = none) (z_abs : mg "abs" = none) (z_min : mg "min" = none)
    {sd : DSp} (hv : ∀ ds Qd Ed, ds.length = 3 → sd ds Qd Ed → m_law_schedule sd_law_take (endsD [.M, .S, .S] Qd) (startD ["_law_bag_here", "_law_size", "_law_most", "_law_few", "_law_found", "_law_k", "_law_many", "_law_way", "_law_begin", "_law_gap"] [.M, .S, .S] ds)) :
    FnG P w K mg base 2 f fd ["_law_bag_here", "_law_size", "_law_most"] (spD K [.M, .S, .S] sd) := by
  refine fn_dm (N := ["_law_bag_here", "_law_size", "_law_most", "_law_few", "_law_found", "_law_k", "_law_many", "_law_way", "_law_begin", "_law_gap"]) F sc_law_schedule rfl hv fun cdv A outer s H0 vs E O H hg hr => ?_
  have sc := sc_law_schedule
  unfold m_law_schedule
  exact ⟨_, (ds_cons (ds_par3 (fun h => ps_par3 (i := 6) (j := 7) (l := 8) rfl sc.nd rfl rfl rfl (by decide) (by decide) (by decide) rfl rfl rfl h (by rfl)) (dp_cons (de_call F_law_take hg (hr.mono (by decide)) (by rfl) g_law_take k_law_take b_law_take (da_cons (de_var 0 (pv 0)) (da_cons (de_add (de_var 2 (pv 2)) de_int) da_nil))) (fun _ => (dp_cons (de_call F_law_take hg (hr.mono (by decide)) (by rfl) g_law_take k_law_take b_law_take (da_cons (de_var 0 (pv 0)) (da_cons de_int da_nil))) (fun _ => (dp_cons (de_call F_law_take hg (hr.mono (by decide)) (by rfl) g_law_take k_law_take b_law_take (da_cons (de_var 0 (pv 0)) (da_cons (de_var 1 (pv 1)) da_nil))) (fun _ => dp_nil)))))) (sim_tsh (sim_tsh (sim_tsh sim_tnil 8) 7) 6))
    (ds_cons (ds_set (de_lst (da_cons (de_call F_law_take hg (hr.mono (by decide)) (by rfl) g_law_take k_law_take b_law_take (da_cons (de_var 0 (pv 0)) (da_cons (de_var 1 (pv 1)) da_nil))) (da_cons (de_call F_law_take hg (hr.mono (by decide)) (by rfl) g_law_take k_law_take b_law_take (da_cons (de_var 0 (pv 0)) (da_cons (de_var 1 (pv 1)) da_nil))) da_nil))) (fun h => ps_set (i := 3) sc.nd rfl (by first | exact Or.inl rfl | exact Or.inr rfl) h))
    (ds_cons (ds_setO (de_lst da_nil) (fun h => ps_set (i := 4) sc.nd rfl (by first | exact Or.inl rfl | exact Or.inr rfl) h))
    (ds_cons (ds_for PassesOwn.never rfl (di_rng1 (by rfl) z_range (da_cons (de_var 6 (pv 6)) da_nil)) (fun _ => (dg_name 5 (pg_name (i := 5) sc.nd rfl (by first | exact Or.inl rfl | exact Or.inr rfl)))) (fun _ => (ds_cons (ds_set (de_ix (de_lst (da_cons (de_call F_law_take hg (hr.mono (by decide)) (by rfl) g_law_take k_law_take b_law_take (da_cons (de_var 0 (pv 0)) (da_cons (de_var 1 (pv 1)) da_nil))) (da_cons (de_ix (de_var 3 (pv 3)) (de_mod (de_var 5 (pv 5)) de_int)) (da_cons (de_mod (de_add (de_var 8 (pv 8)) (de_var 5 (pv 5))) (de_var 1 (pv 1))) (da_cons (de_mod (de_sub (de_var 8 (pv 8)) (de_var 5 (pv 5))) (de_var 1 (pv 1))) da_nil))))) (de_min rfl (by rfl) z_min (da_cons (de_var 7 (pv 7)) (da_cons de_int da_nil)))) (fun h => ps_set (i := 9) sc.nd rfl (by first | exact Or.inl rfl | exact Or.inr rfl) h))
    (ds_cons (ds_if (dt_eq hr.units (de_var 7 (pv 7)) de_int) (ds_one (ds_set (de_mod (de_abs (by rfl) z_abs (da_cons (de_add (de_sub (de_mod (de_add (de_var 8 (pv 8)) (de_var 5 (pv 5))) (de_sub (de_mul de_int (de_var 1 (pv 1))) de_int)) (de_var 1 (pv 1))) de_int) da_nil)) (de_var 1 (pv 1))) (fun h => ps_set (i := 9) sc.nd rfl (by first | exact Or.inl rfl | exact Or.inr rfl) h))) ds_nil)
    (ds_cons (ds_if (dt_eq hr.units (de_var 7 (pv 7)) de_int) (ds_one (ds_set (de_call F_law_take hg (hr.mono (by decide)) (by rfl) g_law_take k_law_take b_law_take (da_cons (de_var 0 (pv 0)) (da_cons (de_max rfl (by rfl) z_max (da_cons de_int (da_cons (de_sub (de_var 1 (pv 1)) de_int) da_nil))) da_nil))) (fun h => ps_set (i := 9) sc.nd rfl (by first | exact Or.inl rfl | exact Or.inr rfl) h))) ds_nil)
    (ds_one (ds_expr (de_append (fun x y => pe_bm PySem.F.plainAttrs_list PySem.F.slot_list_append PySem.F.type_list_append mt_append x y) (de_var 4 (pv 4)) (da_cons (de_var 9 (pv 9)) da_nil)))))))))
    (ds_one (ds_ret (de_var 4 (pv 4))))))))⟩
/-- _law_standing(_law_size) -/
def m_law_standing  : DTS :=
    (mRet (mLRg (mRg1 (mVar 0))))
set_option maxHeartbeats 4000000 in
theorem walk_law_standing {f : Addr} {fd : FuncData} (F : Fun K "_law_standing" "_law_standing" s_law_standing f fd) (z_list : mg "list" = none) (z_range : mg "range" = none)
    {sd : DSp} (hv : ∀ ds Qd Ed, ds.length = 1 → sd ds Qd Ed → m_law_standing (endsD [.S] Qd) (startD ["_law_size"] [.S] ds)) :
    FnG P w K mg base 1 f fd ["_law_size"] (spD K [.S] sd) := by
  refine fn_dm (N := ["_law_size"]) F sc_law_standing rfl hv fun cdv A outer s H0 vs E O H hg hr => ?_
  have sc := sc_law_standing
  unfold m_law_standing
  exact ⟨_, (ds_one (ds_ret (de_listRg rfl (by rfl) z_list (dr_1 (by rfl) z_range (de_var 0 (pv 0))))))⟩
/-- _law_called(_law_ranks_here, _law_there, _law_gap) -/
def m_law_called  : DTS :=
    (mSeqS (mSet 3 (mCB lenD (mCons (mVar 0) mNil)))
    (mSeqS (mIfS (mTest (mOp ltD (mVar 2) (mOp subD (mVar 3) (mC (.int 1))))) (mSeqS (mPar (mPCons (mOp ixD (mVar 1) (mVar 2)) (mPCons (mOp ixD (mVar 1) (mOp addD (mVar 2) (mC (.int 1)))) mPNil)) (.sh 4 :: .sh 5 :: []))
    (mSeqS (mIfS (mTest (mOp gtD (mOp ixD (mVar 0) (mOp modD (mVar 4) (mVar 3))) (mOp ixD (mVar 0) (mOp modD (mVar 5) (mVar 3))))) (mSeqS (mPar3 2 (mPCons (mVar 5) (mPCons (mVar 4) mPNil)) (.sub (mVar 1) (mVar 2) :: .sub (mVar 1) (mOp addD (mVar 2) (mC (.int 1))) :: []))
    (mRet (mC (.bl true)))) mNext)
    (mRet (mC (.bl false))))) mNext)
    (mSeqS (mPar (mPCons (mOp ixD (mVar 1) (mOp subD (mVar 3) (mC (.int 1)))) (mPCons (mOp addD (mOp ixD (mVar 1) (mC (.int 0))) (mVar 3)) mPNil)) (.sh 4 :: .sh 5 :: []))
    (mSeqS (mIfS (mTest (mOp gtD (mOp ixD (mVar 0) (mOp modD (mVar 4) (mVar 3))) (mOp ixD (mVar 0) (mOp modD (mVar 5) (mVar 3))))) (mSeqS (mPar3 2 (mPCons (mVar 5) (mPCons (mOp subD (mVar 4) (mVar 3)) mPNil)) (.sub (mVar 1) (mOp subD (mVar 3) (mC (.int 1))) :: .sub (mVar 1) (mC (.int 0)) :: []))
    (mRet (mC (.bl true)))) mNext)
    (mRet (mC (.bl false)))))))
set_option maxHeartbeats 4000000 in
theorem walk_law_called {f : Addr} {fd : FuncData} (F : Fun K "_law_called" "_law_called" s_law_called f fd) (z_len : mg "len" = none)
    {sd : DSp} (hv : ∀ ds Qd Ed, ds.length = 3 → sd ds Qd Ed → m_law_called (endsD [.S, .M, .S] Qd) (startD ["_law_ranks_here", "_law_there", "_law_gap", "_law_size", "_law_first", "_law_second"] [.S, .M, .S] ds)) :
    FnG P w K mg base 1 f fd ["_law_ranks_here", "_law_there", "_law_gap"] (spD K [.S, .M, .S] sd) := by
  refine fn_dm (N := ["_law_ranks_here", "_law_there", "_law_gap", "_law_size", "_law_first", "_law_second"]) F sc_law_called rfl hv fun cdv A outer s H0 vs E O H hg hr => ?_
  have sc := sc_law_called
  unfold m_law_called
  exact ⟨_, (ds_cons (ds_set (de_len (by rfl) z_len (da_cons (de_var 0 (pv 0)) da_nil)) (fun h => ps_set (i := 3) sc.nd rfl (by first | exact Or.inl rfl | exact Or.inr rfl) h))
    (ds_cons (ds_if (dt_cmp op_lt sim_lt (de_var 2 (pv 2)) (de_sub (de_var 3 (pv 3)) de_int) (nomark _)) (ds_cons (ds_par2 (fun h => ps_par (i := 4) (j := 5) rfl sc.nd rfl rfl (by decide) rfl rfl h (by rfl)) (dp_cons (de_ix (de_var 1 (pv 1)) (de_var 2 (pv 2))) (fun _ => (dp_cons (de_ix (de_var 1 (pv 1)) (de_add (de_var 2 (pv 2)) de_int)) (fun _ => dp_nil)))) (sim_tsh (sim_tsh sim_tnil 5) 4))
    (ds_cons (ds_if (dt_cmp op_gt sim_gt (de_ix (de_var 0 (pv 0)) (de_mod (de_var 4 (pv 4)) (de_var 3 (pv 3)))) (de_ix (de_var 0 (pv 0)) (de_mod (de_var 5 (pv 5)) (de_var 3 (pv 3)))) (nomark _)) (ds_cons (ds_asgT (n := 2) (dp_cons (de_var 5 (pv 5)) (fun _ => (dp_cons (de_var 4 (pv 4)) (fun _ => dp_nil)))) (dts_sub (fun a b => pg_sub a b set_list) (fun _ => (de_var 1 (pv 1))) (fun _ => (de_var 2 (pv 2))) (dts_sub (fun a b => pg_sub a b set_list) (fun _ => (de_var 1 (pv 1))) (fun _ => (de_add (de_var 2 (pv 2)) de_int)) dts_nil)) rfl (by decide))
    (ds_one (ds_ret de_bl))) ds_nil)
    (ds_one (ds_ret de_bl)))) ds_nil)
    (ds_cons (ds_par2 (fun h => ps_par (i := 4) (j := 5) rfl sc.nd rfl rfl (by decide) rfl rfl h (by rfl)) (dp_cons (de_ix (de_var 1 (pv 1)) (de_sub (de_var 3 (pv 3)) de_int)) (fun _ => (dp_cons (de_add (de_ix (de_var 1 (pv 1)) de_int) (de_var 3 (pv 3))) (fun _ => dp_nil)))) (sim_tsh (sim_tsh sim_tnil 5) 4))
    (ds_cons (ds_if (dt_cmp op_gt sim_gt (de_ix (de_var 0 (pv 0)) (de_mod (de_var 4 (pv 4)) (de_var 3 (pv 3)))) (de_ix (de_var 0 (pv 0)) (de_mod (de_var 5 (pv 5)) (de_var 3 (pv 3)))) (nomark _)) (ds_cons (ds_asgT (n := 2) (dp_cons (de_var 5 (pv 5)) (fun _ => (dp_cons (de_sub (de_var 4 (pv 4)) (de_var 3 (pv 3))) (fun _ => dp_nil)))) (dts_sub (fun a b => pg_sub a b set_list) (fun _ => (de_var 1 (pv 1))) (fun _ => (de_sub (de_var 3 (pv 3)) de_int)) (dts_sub (fun a b => pg_sub a b set_list) (fun _ => (de_var 1 (pv 1))) (fun _ => de_int) dts_nil)) rfl (by decide))
    (ds_one (ds_ret de_bl))) ds_nil)
    (ds_one (ds_ret de_bl))))))⟩
/-- _law_run(_law_ranks_here, _law_schedule_here) -/
def m_law_run (sd_law_called sd_law_standing : DSp) : DTS :=
    (mSeqS (mPar (mPCons (mCall [.S] sd_law_standing (mCons (mCB lenD (mCons (mVar 0) mNil)) mNil)) (mPCons (mLst mNil) mPNil)) (.ow 2 :: .ow 3 :: []))
    (mSeqS (mFor (mEnum (mVar 1)) (mgTup 2 (mgCons (mgName 4) (mgCons (mgName 5) mgNil))) (mIfS (mTest (mCall [.S, .M, .S] sd_law_called (mCons (mVar 0) (mCons (mVar 2) (mCons (mVar 5) mNil))))) (mDrop (mMut appendD (mVar 3) (mCons (mVar 4) mNil))) mNext))
    (mFrz 2 (mFrz 3 (mRet (mTup (mCons (mVar 2) (mCons (mVar 3) mNil))))))))
set_option maxHeartbeats 4000000 in
theorem walk_law_run {f : Addr} {fd : FuncData} (F : Fun K "_law_run" "_law_run" s_law_run f fd) {sd_law_called sd_law_standing : DSp}
    {f_law_called : Addr} {fd_law_called : FuncData} (F_law_called : FnG P w K mg base 1 f_law_called fd_law_called ["_law_ranks_here", "_law_there", "_law_gap"] (spD K [.S, .M, .S] sd_law_called)) (g_law_called : mg "_law_called" = some (.ref f_law_called)) (k_law_called : PySem.W.keepIn K (.ref f_law_called) = true) (b_law_called : Binds K fd_law_called ["_law_ranks_here", "_law_there", "_law_gap"] [])
    {f_law_standing : Addr} {fd_law_standing : FuncData} (F_law_standing : FnG P w K mg base 1 f_law_standing fd_law_standing ["_law_size"] (spD K [.S] sd_law_standing)) (g_law_standing : mg "_law_standing" = some (.ref f_law_standing)) (k_law_standing : PySem.W.keepIn K (.ref f_law_standing) = true) (b_law_standing : Binds K fd_law_standing ["_law_size"] []) (z_enumerate : mg "enumerate" = none) (z_len : mg "len" = none)
    {sd : DSp} (hv : ∀ ds Qd Ed, ds.length = 2 → sd ds Qd Ed → m_law_run sd_law_called sd_law_standing (endsD [.S, .S] Qd) (startD ["_law_ranks_here", "_law_schedule_here", "_law_there", "_law_found", "_law_at", "_law_gap"] [.S, .S] ds)) :
    FnG P w K mg base 2 f fd ["_law_ranks_here", "_law_schedule_here"] (spD K [.S, .S] sd) := by
  refine fn_dm (N := ["_law_ranks_here", "_law_schedule_here", "_law_there", "_law_found", "_law_at", "_law_gap"]) F sc_law_run rfl hv fun cdv A outer s H0 vs E O H hg hr => ?_
  have sc := sc_law_run
  unfold m_law_run
  exact ⟨_, (ds_cons (ds_par2 (fun h => ps_par (i := 2) (j := 3) rfl sc.nd rfl rfl (by decide) rfl rfl h (by rfl)) (dp_cons (de_call F_law_standing hg (hr.mono (by decide)) (by rfl) g_law_standing k_law_standing b_law_standing (da_cons (de_len (by rfl) z_len (da_cons (de_var 0 (pv 0)) da_nil)) da_nil)) (fun _ => (dp_cons (de_lst da_nil) (fun _ => dp_nil)))) (sim_tow (sim_tow sim_tnil 3) 2))
    (ds_cons (ds_for PassesOwn.never rfl (di_enum (by rfl) z_enumerate (de_var 1 (pv 1))) (fun _ => (dg_tup rfl (dgs_cons (dg_name 4 (pg_name (i := 4) sc.nd rfl (by first | exact Or.inl rfl | exact Or.inr rfl))) (dgs_cons (dg_name 5 (pg_name (i := 5) sc.nd rfl (by first | exact Or.inl rfl | exact Or.inr rfl))) dgs_nil)))) (fun _ => (ds_one (ds_if (dt_val (de_call F_law_called hg (hr.mono (by decide)) (by rfl) g_law_called k_law_called b_law_called (da_cons (de_var 0 (pv 0)) (da_cons (de_var 2 (pv 2)) (da_cons (de_var 5 (pv 5)) da_nil))))) (ds_one (ds_expr (de_append (fun x y => pe_bm PySem.F.plainAttrs_list PySem.F.slot_list_append PySem.F.type_list_append mt_append x y) (de_var 3 (pv 3)) (da_cons (de_var 4 (pv 4)) da_nil)))) ds_nil))))
    (dss_frz 2 (dss_frz 3 (ds_one (ds_ret (de_tup (da_cons (de_var 2 (pv 2)) (da_cons (de_var 3 (pv 3)) da_nil)))))))))⟩
/-- _law_ended(_law_there) -/
def m_law_ended  : DTS :=
    (mSeqS (mSet 1 (mCB lenD (mCons (mVar 0) mNil)))
    (mSeqS (mSetO 2 (mOp mulD (mLst (mCons (mC (.int 0)) mNil)) (mVar 1)))
    (mSeqS (mFor (mRng1 (mCons (mVar 1) mNil)) (mgName 3) (mSeqS (mSet 4 (mOp modD (mOp ixD (mVar 0) (mVar 3)) (mVar 1)))
    (mAsg (mOp addD (mOp subD (mVar 3) (mOp ixD (mVar 0) (mVar 3))) (mVar 4)) (mgSub (mVar 2) (mVar 4) stD))))
    (mRet (mCB tupleD (mCons (mVar 2) mNil))))))
set_option maxHeartbeats 4000000 in
theorem walk_law_ended {f : Addr} {fd : FuncData} (F : Fun K "_law_ended" "_law_ended" s_law_ended f fd) (z_tuple : mg "tuple" = none) (z_range : mg "range" = none) (z_len : mg "len" = none)
    {sd : DSp} (hv : ∀ ds Qd Ed, ds.length = 1 → sd ds Qd Ed → m_law_ended (endsD [.S] Qd) (startD ["_law_there", "_law_size", "_law_found", "_law_place", "_law_person"] [.S] ds)) :
    FnG P w K mg base 1 f fd ["_law_there"] (spD K [.S] sd) := by
  refine fn_dm (N := ["_law_there", "_law_size", "_law_found", "_law_place", "_law_person"]) F sc_law_ended rfl hv fun cdv A outer s H0 vs E O H hg hr => ?_
  have sc := sc_law_ended
  unfold m_law_ended
  exact ⟨_, (ds_cons (ds_set (de_len (by rfl) z_len (da_cons (de_var 0 (pv 0)) da_nil)) (fun h => ps_set (i := 1) sc.nd rfl (by first | exact Or.inl rfl | exact Or.inr rfl) h))
    (ds_cons (ds_setO (de_mul (de_lst (da_cons de_int da_nil)) (de_var 1 (pv 1))) (fun h => ps_set (i := 2) sc.nd rfl (by first | exact Or.inl rfl | exact Or.inr rfl) h))
    (ds_cons (ds_for PassesOwn.never rfl (di_rng1 (by rfl) z_range (da_cons (de_var 1 (pv 1)) da_nil)) (fun _ => (dg_name 3 (pg_name (i := 3) sc.nd rfl (by first | exact Or.inl rfl | exact Or.inr rfl)))) (fun _ => (ds_cons (ds_set (de_mod (de_ix (de_var 0 (pv 0)) (de_var 3 (pv 3))) (de_var 1 (pv 1))) (fun h => ps_set (i := 4) sc.nd rfl (by first | exact Or.inl rfl | exact Or.inr rfl) h))
    (ds_one (ds_asg (de_add (de_sub (de_var 3 (pv 3)) (de_ix (de_var 0 (pv 0)) (de_var 3 (pv 3)))) (de_var 4 (pv 4))) (dg_sub (fun a b => pg_sub a b set_list) (de_var 2 (pv 2)) (de_var 4 (pv 4))))))))
    (ds_one (ds_ret (de_tuple (by rfl) z_tuple (da_cons (de_var 2 (pv 2)) da_nil)))))))⟩
/-- _law_passes(_law_outcome) -/
def m_law_passes  : DTS :=
    (mSeqS (mPar (mPCons (mCB lenD (mCons (mVar 0) mNil)) (mPCons (mLst mNil) mPNil)) (.sh 3 :: .ow 4 :: []))
    (mSeqS (mSet 1 (mOp addD (mOp subD (mCB maxD (mCons (mVar 0) mNil)) (mCB minD (mCons (mVar 0) mNil))) (mOp mulD (mC (.int 2)) (mVar 3))))
    (mSeqS (mFor (mRng1 (mCons (mVar 3) mNil)) (mgName 2) (mFor (mRng2 (mCons (mOp addD (mVar 2) (mC (.int 1))) (mCons (mOp addD (mVar 2) (mVar 1)) mNil))) (mgName 5) (mSeqS (mSet 6 (mOp subD (mOp addD (mOp ixD (mVar 0) (mOp modD (mVar 5) (mVar 3))) (mVar 5)) (mOp modD (mVar 5) (mVar 3))))
    (mIfS (mTest (mOp gtD (mOp ixD (mVar 0) (mVar 2)) (mVar 6))) (mDrop (mMut appendD (mVar 4) (mCons (mTup (mCons (mVar 2) (mCons (mVar 5) mNil))) mNil))) mNext))))
    (mRet (mVar 4)))))
set_option maxHeartbeats 4000000 in
theorem walk_law_passes {f : Addr} {fd : FuncData} (F : Fun K "_law_passes" "_law_passes" s_law_passes f fd) (z_range : mg "range" = none) (z_max : mg "max" = none) (z_min : mg "min" = none) (z_len : mg "len" = none)
    {sd : DSp} (hv : ∀ ds Qd Ed, ds.length = 1 → sd ds Qd Ed → m_law_passes (endsD [.S] Qd) (startD ["_law_outcome", "_law_far", "_law_one", "_law_size", "_law_found", "_law_other", "_law_end"] [.S] ds)) :
    FnG P w K mg base 1 f fd ["_law_outcome"] (spD K [.S] sd) := by
  refine fn_dm (N := ["_law_outcome", "_law_far", "_law_one", "_law_size", "_law_found", "_law_other", "_law_end"]) F sc_law_passes rfl hv fun cdv A outer s H0 vs E O H hg hr => ?_
  have sc := sc_law_passes
  unfold m_law_passes
  exact ⟨_, (ds_cons (ds_par2 (fun h => ps_par (i := 3) (j := 4) rfl sc.nd rfl rfl (by decide) rfl rfl h (by rfl)) (dp_cons (de_len (by rfl) z_len (da_cons (de_var 0 (pv 0)) da_nil)) (fun _ => (dp_cons (de_lst da_nil) (fun _ => dp_nil)))) (sim_tsh (sim_tow sim_tnil 4) 3))
    (ds_cons (ds_set (de_add (de_sub (de_max rfl (by rfl) z_max (da_cons (de_var 0 (pv 0)) da_nil)) (de_min rfl (by rfl) z_min (da_cons (de_var 0 (pv 0)) da_nil))) (de_mul de_int (de_var 3 (pv 3)))) (fun h => ps_set (i := 1) sc.nd rfl (by first | exact Or.inl rfl | exact Or.inr rfl) h))
    (ds_cons (ds_for PassesOwn.never rfl (di_rng1 (by rfl) z_range (da_cons (de_var 3 (pv 3)) da_nil)) (fun _ => (dg_name 2 (pg_name (i := 2) sc.nd rfl (by first | exact Or.inl rfl | exact Or.inr rfl)))) (fun _ => (ds_one (ds_for PassesOwn.never rfl (di_rng2 (by rfl) z_range (da_cons (de_add (de_var 2 (pv 2)) de_int) (da_cons (de_add (de_var 2 (pv 2)) (de_var 1 (pv 1))) da_nil))) (fun _ => (dg_name 5 (pg_name (i := 5) sc.nd rfl (by first | exact Or.inl rfl | exact Or.inr rfl)))) (fun _ => (ds_cons (ds_set (de_sub (de_add (de_ix (de_var 0 (pv 0)) (de_mod (de_var 5 (pv 5)) (de_var 3 (pv 3)))) (de_var 5 (pv 5))) (de_mod (de_var 5 (pv 5)) (de_var 3 (pv 3)))) (fun h => ps_set (i := 6) sc.nd rfl (by first | exact Or.inl rfl | exact Or.inr rfl) h))
    (ds_one (ds_if (dt_cmp op_gt sim_gt (de_ix (de_var 0 (pv 0)) (de_var 2 (pv 2))) (de_var 6 (pv 6)) (nomark _)) (ds_one (ds_expr (de_append (fun x y => pe_bm PySem.F.plainAttrs_list PySem.F.slot_list_append PySem.F.type_list_append mt_append x y) (de_var 4 (pv 4)) (da_cons (de_tup (da_cons (de_var 2 (pv 2)) (da_cons (de_var 5 (pv 5)) da_nil))) da_nil)))) ds_nil))))))))
    (ds_one (ds_ret (de_var 4 (pv 4)))))))⟩
/-- _law_drawn_outcome(_law_bag_here, _law_size, _law_reach) -/
def m_law_drawn_outcome (sd_law_take : DSp) : DTS :=
    (mSeqS (mPar (mPCons (mLRg (mRg1 (mVar 1))) (mPCons (mLst mNil) (mPCons (mC (.int 0)) mPNil))) (.ow 4 :: .ow 5 :: .sh 6 :: []))
    (mSeqS (mFor (mRng1 (mCons (mVar 1) mNil)) (mgName 3) (mSeqS (mSet 7 (mOp subD (mCall [.M, .S] sd_law_take (mCons (mVar 0) (mCons (mOp addD (mOp mulD (mC (.int 2)) (mVar 2)) (mC (.int 1))) mNil))) (mVar 2)))
    (mSeqS (mIfS (mTest (mOp eqD (mVar 3) (mOp subD (mVar 1) (mC (.int 1))))) (mSet 7 (mOp subD (mC (.int 0)) (mVar 6))) mNext)
    (mSeqS (mAug 6 (mVar 7) addI)
    (mDrop (mMut appendD (mVar 5) (mCons (mOp addD (mMut popD (mVar 4) (mCons (mCall [.M, .S] sd_law_take (mCons (mVar 0) (mCons (mCB lenD (mCons (mVar 4) mNil)) mNil))) mNil)) (mOp mulD (mVar 7) (mVar 1))) mNil)))))))
    (mRet (mCB tupleD (mCons (mVar 5) mNil)))))
set_option maxHeartbeats 4000000 in
theorem walk_law_drawn_outcome {f : Addr} {fd : FuncData} (F : Fun K "_law_drawn_outcome" "_law_drawn_outcome" s_law_drawn_outcome f fd) {sd_law_take : DSp}
    {f_law_take : Addr} {fd_law_take : FuncData} (F_law_take : FnG P w K mg base 1 f_law_take fd_law_take ["_law_bag_here", "_law_many"] (spD K [.M, .S] sd_law_take)) (g_law_take : mg "_law_take" = some (.ref f_law_take)) (k_law_take : PySem.W.keepIn K (.ref f_law_take) = true) (b_law_take : Binds K fd_law_take ["_law_bag_here", "_law_many"] []) (z_tuple : mg "tuple" = none) (z_range : mg "range" = none) (z_len : mg "len" = none) (z_list : mg "list" = none)
    {sd : DSp} (hv : ∀ ds Qd Ed, ds.length = 3 → sd ds Qd Ed → m_law_drawn_outcome sd_law_take (endsD [.M, .S, .S] Qd) (startD ["_law_bag_here", "_law_size", "_law_reach", "_law_person", "_law_left", "_law_found", "_law_total", "_law_lap"] [.M, .S, .S] ds)) :
    FnG P w K mg base 2 f fd ["_law_bag_here", "_law_size", "_law_reach"] (spD K [.M, .S, .S] sd) := by
  refine fn_dm (N := ["_law_bag_here", "_law_size", "_law_reach", "_law_person", "_law_left", "_law_found", "_law_total", "_law_lap"]) F sc_law_drawn_outcome rfl hv fun cdv A outer s H0 vs E O H hg hr => ?_
  have sc := sc_law_drawn_outcome
  unfold m_law_drawn_outcome
  exact ⟨_, (ds_cons (ds_par3 (fun h => ps_par3 (i := 4) (j := 5) (l := 6) rfl sc.nd rfl rfl rfl (by decide) (by decide) (by decide) rfl rfl rfl h (by rfl)) (dp_cons (de_listRg rfl (by rfl) z_list (dr_1 (by rfl) z_range (de_var 1 (pv 1)))) (fun _ => (dp_cons (de_lst da_nil) (fun _ => (dp_cons de_int (fun _ => dp_nil)))))) (sim_tow (sim_tow (sim_tsh sim_tnil 6) 5) 4))
    (ds_cons (ds_for PassesOwn.never rfl (di_rng1 (by rfl) z_range (da_cons (de_var 1 (pv 1)) da_nil)) (fun _ => (dg_name 3 (pg_name (i := 3) sc.nd rfl (by first | exact Or.inl rfl | exact Or.inr rfl)))) (fun _ => (ds_cons (ds_set (de_sub (de_call F_law_take hg (hr.mono (by decide)) (by rfl) g_law_take k_law_take b_law_take (da_cons (de_var 0 (pv 0)) (da_cons (de_add (de_mul de_int (de_var 2 (pv 2))) de_int) da_nil))) (de_var 2 (pv 2))) (fun h => ps_set (i := 7) sc.nd rfl (by first | exact Or.inl rfl | exact Or.inr rfl) h))
    (ds_cons (ds_if (dt_eq hr.units (de_var 3 (pv 3)) (de_sub (de_var 1 (pv 1)) de_int)) (ds_one (ds_set (de_sub de_int (de_var 6 (pv 6))) (fun h => ps_set (i := 7) sc.nd rfl (by first | exact Or.inl rfl | exact Or.inr rfl) h))) ds_nil)
    (ds_cons (ds_augAdd (de_var 7 (pv 7)) (fun h => ps_aug (i := 6) sc.nd rfl (by first | exact Or.inl rfl | exact Or.inr rfl) h ip_add))
    (ds_one (ds_expr (de_append (fun x y => pe_bm PySem.F.plainAttrs_list PySem.F.slot_list_append PySem.F.type_list_append mt_append x y) (de_var 5 (pv 5)) (da_cons (de_add (de_pop (fun x y => pe_bm PySem.F.plainAttrs_list PySem.F.slot_list_pop PySem.F.type_list_pop mt_pops x y) (de_var 4 (pv 4)) (da_cons (de_call F_law_take hg (hr.mono (by decide)) (by rfl) g_law_take k_law_take b_law_take (da_cons (de_var 0 (pv 0)) (da_cons (de_len (by rfl) z_len (da_cons (de_var 4 (pv 4)) da_nil)) da_nil))) da_nil)) (de_mul (de_var 7 (pv 7)) (de_var 1 (pv 1)))) da_nil)))))))))
    (ds_one (ds_ret (de_tuple (by rfl) z_tuple (da_cons (de_var 5 (pv 5)) da_nil))))))⟩
/-- _law_counted(_law_outcome) -/
def m_law_counted  : DTS :=
    (mSeqS (mPar (mPCons (mC (.int 0)) (mPCons (mCB lenD (mCons (mVar 0) mNil)) mPNil)) (.sh 2 :: .sh 3 :: []))
    (mSeqS (mFor (mRng1 (mCons (mVar 3) mNil)) (mgName 1) (mFor (mRng1 (mCons (mVar 1) mNil)) (mgName 4) (mSeqS (mSet 5 (mOp subD (mC (.int 0)) (mOp addD (mOp fdivD (mOp subD (mOp ixD (mVar 0) (mVar 4)) (mOp ixD (mVar 0) (mVar 1))) (mVar 3)) (mC (.int 1)))))
    (mAug 2 (mOp ixD (mLst (mCons (mOp subD (mC (.int 0)) (mVar 5)) (mCons (mVar 5) mNil))) (mCB intD (mCons (mOp gtD (mVar 5) (mC (.int 0))) mNil))) addI))))
    (mRet (mVar 2))))
set_option maxHeartbeats 4000000 in
theorem walk_law_counted {f : Addr} {fd : FuncData} (F : Fun K "_law_counted" "_law_counted" s_law_counted f fd) (z_range : mg "range" = none) (z_int : mg "int" = none) (z_len : mg "len" = none)
    {sd : DSp} (hv : ∀ ds Qd Ed, ds.length = 1 → sd ds Qd Ed → m_law_counted (endsD [.S] Qd) (startD ["_law_outcome", "_law_other", "_law_total", "_law_size", "_law_one", "_law_laps"] [.S] ds)) :
    FnG P w K mg base 1 f fd ["_law_outcome"] (spD K [.S] sd) := by
  refine fn_dm (N := ["_law_outcome", "_law_other", "_law_total", "_law_size", "_law_one", "_law_laps"]) F sc_law_counted rfl hv fun cdv A outer s H0 vs E O H hg hr => ?_
  have sc := sc_law_counted
  unfold m_law_counted
  exact ⟨_, (ds_cons (ds_par2 (fun h => ps_par (i := 2) (j := 3) rfl sc.nd rfl rfl (by decide) rfl rfl h (by rfl)) (dp_cons de_int (fun _ => (dp_cons (de_len (by rfl) z_len (da_cons (de_var 0 (pv 0)) da_nil)) (fun _ => dp_nil)))) (sim_tsh (sim_tsh sim_tnil 3) 2))
    (ds_cons (ds_for PassesOwn.never rfl (di_rng1 (by rfl) z_range (da_cons (de_var 3 (pv 3)) da_nil)) (fun _ => (dg_name 1 (pg_name (i := 1) sc.nd rfl (by first | exact Or.inl rfl | exact Or.inr rfl)))) (fun _ => (ds_one (ds_for PassesOwn.never rfl (di_rng1 (by rfl) z_range (da_cons (de_var 1 (pv 1)) da_nil)) (fun _ => (dg_name 4 (pg_name (i := 4) sc.nd rfl (by first | exact Or.inl rfl | exact Or.inr rfl)))) (fun _ => (ds_cons (ds_set (de_sub de_int (de_add (de_fdiv (de_sub (de_ix (de_var 0 (pv 0)) (de_var 4 (pv 4))) (de_ix (de_var 0 (pv 0)) (de_var 1 (pv 1)))) (de_var 3 (pv 3))) de_int)) (fun h => ps_set (i := 5) sc.nd rfl (by first | exact Or.inl rfl | exact Or.inr rfl) h))
    (ds_one (ds_augAdd (de_ix (de_lst (da_cons (de_sub de_int (de_var 5 (pv 5))) (da_cons (de_var 5 (pv 5)) da_nil))) (de_intc (by rfl) z_int (da_cons (de_gt (de_var 5 (pv 5)) de_int) da_nil))) (fun h => ps_aug (i := 2) sc.nd rfl (by first | exact Or.inl rfl | exact Or.inr rfl) h ip_add)))))))))
    (ds_one (ds_ret (de_var 2 (pv 2))))))⟩
/-- _law_listed(_law_outcome, _law_bound) -/
def m_law_listed (C_RingError C_TooMany : Addr) (sd_passes : DSp) (Wd : Dwx) : DTS :=
    (mTryAs 2 [("TooMany", true)] (fun Wd1 => (mSeqS (mIfS (mTest (mOp eqD (mVar 1) (mC (.int 400)))) (mRetNP (mC (.str "told")) (mCallX Wd1 [.S, .S] sd_passes (mSnoc (mCons (mVar 0) mNil) [.int 400]))) mNext)
    (mRetNP (mC (.str "told")) (mCallX Wd1 [.S, .S] sd_passes (mCons (mVar 0) (mCons (mVar 1) mNil)))))) (fun n1 fds1 a1 => (mRet (mIf (mTest (mXis n1 a1 [("TooMany", true)] (mVar 2))) (mTup (mCons (mC (.str "many")) (mCons (mXf n1 fds1 a1 "limit" ["TooMany"] (mVar 2)) mNil))) (mTup (mCons (mC (.str "other")) (mCons (mC (.int 0)) mNil)))))) Wd)
set_option maxHeartbeats 4000000 in
theorem walk_law_listed {f : Addr} {fd : FuncData} (F : Fun K "_law_listed" "_law_listed" s_law_listed f fd) {C_RingError C_TooMany : Addr} {sd_passes : DSp}
    {f_passes : Addr} {fd_passes : FuncData} (F_passes : FnG P w K mg base 3 f_passes fd_passes ["outcome", "limit"] (spD K [.S, .S] sd_passes)) (g_passes : mg "passes" = some (.ref f_passes)) (k_passes : PySem.W.keepIn K (.ref f_passes) = true) (b_passes : KwB K fd_passes ["outcome", "limit"] 1 ["limit"]) (ex_RingError : XEx K C_RingError [("TooMany", true)]) (g_RingError : mg "RingError" = some (.ref C_RingError)) (g_TooMany : mg "TooMany" = some (.ref C_TooMany)) (df_passes : Dfl K fd_passes ["outcome", "limit"] [.int 400] [.int 400]) (is_TooMany : XIs K (.ref C_TooMany) [("TooMany", true)]) (xf_limit : XFd K "limit" ["TooMany"]) (z_isinstance : mg "isinstance" = none)
    {sd : DSp} (hv : ∀ ds Qd Ed, ds.length = 2 → sd ds Qd Ed → m_law_listed C_RingError C_TooMany sd_passes (wEnd [.S, .S] Ed) (endsD [.S, .S] Qd) (startD ["_law_outcome", "_law_bound", "e"] [.S, .S] ds)) :
    FnG P w K mg base 4 f fd ["_law_outcome", "_law_bound"] (spD K [.S, .S] sd) := by
  refine fn_dx (N := ["_law_outcome", "_law_bound", "e"]) F sc_law_listed rfl hv fun cdv A outer s H0 vs E O Wd hg hr po tk wl => ?_
  have sc := sc_law_listed
  unfold m_law_listed
  exact ⟨_, (ds_one (ds_try_as (nm := "e") (i := 2) (tab := [("TooMany", true)]) rfl rfl sc.nd rfl rfl ⟨by rfl, by decide, .inl g_RingError⟩ tk wl (fun W1 Wd1 pn1 xe1 tk1 po1 wl1 => (ds_cons (ds_if (dt_eq hr.units (de_var 1 (pv 1)) de_int) (ds_one (ds_retNP de_str (de_callXD tk1 wl1 F_passes hg (hr.mono (by decide)) (by rfl) g_passes k_passes df_passes (da_cons (de_var 0 (pv 0)) da_nil)))) ds_nil)
    (ds_one (ds_retNP de_str (de_callKX tk1 wl1 F_passes hg (hr.mono (by decide)) (by rfl) g_passes k_passes b_passes (da_cons (de_var 0 (pv 0)) da_nil) (de_var 1 (pv 1)) (da_cons (de_var 0 (pv 0)) (da_cons (de_var 1 (pv 1)) da_nil))))))) (fun a1 oe1 cls1 d1 pn1 n1 fvs1 fds1 hz1 hf1 hd1 hm1 hx1 => (ds_one (ds_ret (de_if (dt_val (de_xis hz1 hf1 (by rfl) z_isinstance (de_var 2 (pv 2)) (pe_cls (by rfl) g_TooMany) (fun _ h => h) (hx := is_TooMany))) (de_tup (da_cons de_str (da_cons (de_xf hz1 hf1 hd1 hm1 hx1 (de_var 2 (pv 2)) (hx := xf_limit)) da_nil))) (de_tup (da_cons de_str (da_cons de_int da_nil))))))) (ex := ex_RingError)))⟩
/-- _law_right(_law_outcome, _law_few) -/
def m_law_right (sd_law_listed sd_law_alike sd_law_passes sd_pass_count sd_law_counted : DSp) : DTS :=
    (mSeqS (mSet 2 (mCall [.S] sd_law_counted (mCons (mVar 0) mNil)))
    (mSeqS (mIfS (mNot (mTest (mCall [.S, .S] sd_law_alike (mCons (mCall [.S] sd_pass_count (mCons (mVar 0) mNil)) (mCons (mVar 2) mNil))))) (mRet (mC (.bl false))) mNext)
    (mSeqS (mIfS (mNot (mTest (mVar 1))) (mSeqS (mSet 5 (mComp (mSeq (mTup (mCons (mC (.int 400)) (mCons (mC (.int 1)) (mCons (mC (.int 1000)) mNil))))) (mgName 4) (mTest (mOp gtD (mVar 2) (mVar 4))) (mVar 4) [4]))
    (mRet (mOp eqD (mComp (mSeq (mVar 5)) (mgName 4) (mTest (mOp neD (mCall [.S, .S] sd_law_listed (mCons (mVar 0) (mCons (mVar 4) mNil))) (mTup (mCons (mC (.str "many")) (mCons (mVar 4) mNil))))) (mVar 4) [4]) (mLst mNil)))) mNext)
    (mSeqS (mSet 3 (mCall [.S] sd_law_passes (mCons (mVar 0) mNil)))
    (mSeqS (mFor (mSeq (mLst (mCons (mC (.int 400)) (mCons (mCB maxD (mCons (mC (.int 1)) (mCons (mCB minD (mCons (mC (.int 1000)) (mCons (mOp subD (mVar 2) (mC (.int 1))) mNil))) mNil))) (mCons (mCB maxD (mCons (mC (.int 1)) (mCons (mCB minD (mCons (mC (.int 1000)) (mCons (mVar 2) mNil))) mNil))) (mCons (mCB maxD (mCons (mC (.int 1)) (mCons (mCB minD (mCons (mC (.int 1000)) (mCons (mOp addD (mVar 2) (mC (.int 1))) mNil))) mNil))) (mCons (mC (.int 400)) mNil))))))) (mgName 4) (mNp 6 [false, false, false, false, false, false, true] (mCall [.S, .S] sd_law_listed (mCons (mKept 0) (mCons (mKept 4) mNil))) (mIfS (mOr (mAnd (mTest (mOp gtD (mKept 2) (mKept 4))) (mTest (mOp neD (mKept 6) (mTup (mCons (mC (.str "many")) (mCons (mKept 4) mNil)))))) (mAnd (mTest (mOp leD (mKept 2) (mKept 4))) (mNot (mTest (mCall [.S, .S] sd_law_alike (mCons (mKept 6) (mCons (mTup (mCons (mC (.str "told")) (mCons (mKept 3) mNil))) mNil))))))) (mRet (mC (.bl false))) mNext) (mTest (mOp leD (mKept 2) (mKept 4))) (mCons (mTup (mCons (mC (.int 0)) (mCons (mC (.int 1)) mNil))) mNil)))
    (mRet (mOp eqD (mVar 2) (mCB lenD (mCons (mVar 3) mNil)))))))))
set_option maxHeartbeats 4000000 in
theorem walk_law_right {f : Addr} {fd : FuncData} (F : Fun K "_law_right" "_law_right" s_law_right f fd) {sd_law_listed sd_law_alike sd_law_passes sd_pass_count sd_law_counted : DSp}
    {f_law_listed : Addr} {fd_law_listed : FuncData} (F_law_listed : FnG P w K mg base 4 f_law_listed fd_law_listed ["_law_outcome", "_law_bound"] (spD K [.S, .S] sd_law_listed)) (g_law_listed : mg "_law_listed" = some (.ref f_law_listed)) (k_law_listed : PySem.W.keepIn K (.ref f_law_listed) = true) (b_law_listed : Binds K fd_law_listed ["_law_outcome", "_law_bound"] [])
    {f_law_alike : Addr} {fd_law_alike : FuncData} (F_law_alike : FnG P w K mg base 1 f_law_alike fd_law_alike ["_law_found", "_law_due"] (spD K [.S, .S] sd_law_alike)) (g_law_alike : mg "_law_alike" = some (.ref f_law_alike)) (k_law_alike : PySem.W.keepIn K (.ref f_law_alike) = true) (b_law_alike : Binds K fd_law_alike ["_law_found", "_law_due"] [])
    {f_law_passes : Addr} {fd_law_passes : FuncData} (F_law_passes : FnG P w K mg base 1 f_law_passes fd_law_passes ["_law_outcome"] (spD K [.S] sd_law_passes)) (g_law_passes : mg "_law_passes" = some (.ref f_law_passes)) (k_law_passes : PySem.W.keepIn K (.ref f_law_passes) = true) (b_law_passes : Binds K fd_law_passes ["_law_outcome"] [])
    {f_pass_count : Addr} {fd_pass_count : FuncData} (F_pass_count : FnG P w K mg base 1 f_pass_count fd_pass_count ["outcome"] (spD K [.S] sd_pass_count)) (g_pass_count : mg "pass_count" = some (.ref f_pass_count)) (k_pass_count : PySem.W.keepIn K (.ref f_pass_count) = true) (b_pass_count : Binds K fd_pass_count ["outcome"] [])
    {f_law_counted : Addr} {fd_law_counted : FuncData} (F_law_counted : FnG P w K mg base 1 f_law_counted fd_law_counted ["_law_outcome"] (spD K [.S] sd_law_counted)) (g_law_counted : mg "_law_counted" = some (.ref f_law_counted)) (k_law_counted : PySem.W.keepIn K (.ref f_law_counted) = true) (b_law_counted : Binds K fd_law_counted ["_law_outcome"] []) (z_len : mg "len" = none) (z_max : mg "max" = none) (z_min : mg "min" = none)
    {sd : DSp} (hv : ∀ ds Qd Ed, ds.length = 2 → sd ds Qd Ed → m_law_right sd_law_listed sd_law_alike sd_law_passes sd_pass_count sd_law_counted (endsD [.S, .S] Qd) (startD ["_law_outcome", "_law_few", "_law_many", "_law_due", "_law_bound", "_law_limits", "_law_found"] [.S, .S] ds)) :
    FnG P w K mg base 5 f fd ["_law_outcome", "_law_few"] (spD K [.S, .S] sd) := by
  refine fn_dm (N := ["_law_outcome", "_law_few", "_law_many", "_law_due", "_law_bound", "_law_limits", "_law_found"]) F sc_law_right rfl hv fun cdv A outer s H0 vs E O H hg hr => ?_
  have sc := sc_law_right
  unfold m_law_right
  exact ⟨_, (ds_cons (ds_set (de_call F_law_counted hg (hr.mono (by decide)) (by rfl) g_law_counted k_law_counted b_law_counted (da_cons (de_var 0 (pv 0)) da_nil)) (fun h => ps_set (i := 2) sc.nd rfl (by first | exact Or.inl rfl | exact Or.inr rfl) h))
    (ds_cons (ds_if (dt_not (dt_val (de_call F_law_alike hg (hr.mono (by decide)) (by rfl) g_law_alike k_law_alike b_law_alike (da_cons (de_call F_pass_count hg (hr.mono (by decide)) (by rfl) g_pass_count k_pass_count b_pass_count (da_cons (de_var 0 (pv 0)) da_nil)) (da_cons (de_var 2 (pv 2)) da_nil))))) (ds_one (ds_ret de_bl)) ds_nil)
    (ds_cons (ds_if (dt_not (dt_val (de_var 1 (pv 1)))) (ds_cons (ds_setC (i := 5) (own := [("_law_bound", 4)]) ⟨rfl, sc.nd, (di_seq (de_tup (da_cons de_int (da_cons de_int (da_cons de_int da_nil))))), blkOk_by (own := [("_law_bound", 4)]) (N := ["_law_outcome", "_law_few", "_law_many", "_law_due", "_law_bound", "_law_limits", "_law_found"]) (sc := defScope s_law_right) (by decide +kernel), (fun _ _ _ _ _ _ => (dg_name 4 (pg_name (i := 4) sc.nd rfl (by first | exact Or.inl rfl | exact Or.inr rfl)))), (own_name (by simp)), mono_name, (fun _ _ _ _ _ _ => (df_one (dt_cmp op_gt sim_gt (de_var 2 (pv 2)) (de_var 4 (pv 4)) (nomark _)))), (fun _ _ _ _ _ _ => (de_var 4 (pv 4)))⟩ rfl rfl (sw_true rfl rfl rfl (by decide +kernel)))
    (ds_one (ds_ret (de_eq hr.units (de_comp (own := [("_law_bound", 4)]) ⟨rfl, sc.nd, (di_seq (de_var 5 (pv 5))), blkOk_by (own := [("_law_bound", 4)]) (N := ["_law_outcome", "_law_few", "_law_many", "_law_due", "_law_bound", "_law_limits", "_law_found"]) (sc := defScope s_law_right) (by decide +kernel), (fun _ _ _ _ _ _ => (dg_name 4 (pg_name (i := 4) sc.nd rfl (by first | exact Or.inl rfl | exact Or.inr rfl)))), (own_name (by simp)), mono_name, (fun _ _ _ _ _ _ => (df_one (dt_ne hr.units (de_call F_law_listed hg (hr.mono (by decide)) (by rfl) g_law_listed k_law_listed b_law_listed (da_cons (de_var 0 (pv 0)) (da_cons (de_var 4 (pv 4)) da_nil))) (de_tup (da_cons de_str (da_cons (de_var 4 (pv 4)) da_nil)))))), (fun _ _ _ _ _ _ => (de_var 4 (pv 4)))⟩) (de_lst da_nil))))) ds_nil)
    (ds_cons (ds_set (de_call F_law_passes hg (hr.mono (by decide)) (by rfl) g_law_passes k_law_passes b_law_passes (da_cons (de_var 0 (pv 0)) da_nil)) (fun h => ps_set (i := 3) sc.nd rfl (by first | exact Or.inl rfl | exact Or.inr rfl) h))
    (ds_cons (ds_for PassesOwn.never rfl (di_seq (de_lst (da_cons de_int (da_cons (de_max rfl (by rfl) z_max (da_cons de_int (da_cons (de_min rfl (by rfl) z_min (da_cons de_int (da_cons (de_sub (de_var 2 (pv 2)) de_int) da_nil))) da_nil))) (da_cons (de_max rfl (by rfl) z_max (da_cons de_int (da_cons (de_min rfl (by rfl) z_min (da_cons de_int (da_cons (de_var 2 (pv 2)) da_nil))) da_nil))) (da_cons (de_max rfl (by rfl) z_max (da_cons de_int (da_cons (de_min rfl (by rfl) z_min (da_cons de_int (da_cons (de_add (de_var 2 (pv 2)) de_int) da_nil))) da_nil))) (da_cons de_int da_nil))))))) (fun _ => (dg_name 4 (pg_name (i := 4) sc.nd rfl (by first | exact Or.inl rfl | exact Or.inr rfl)))) (fun _ => (dss_npI (rv := false) [false, false, false, false, false, false, true] (fun _ _ => (de_call F_law_listed hg (hr.mono (by decide)) (by rfl) g_law_listed k_law_listed b_law_listed (da_cons (de_kept 0 (pv 0)) (da_cons (de_kept 4 (pv 4)) da_nil)))) (fun h => ps_set (i := 6) sc.nd rfl (by first | exact Or.inl rfl | exact Or.inr rfl) h) (fun _ _ => (dt_cmp op_le sim_le (de_kept 2 (pv 2)) (de_kept 4 (pv 4)) (nomark _))) (fun _ _ => (da_cons (de_tup (da_cons de_int (da_cons de_int da_nil))) da_nil)) (fun ht ha => pss_one (ps_if ht (pss_cons (ps_expr (pe_bm PySem.F.plainAttrs_list PySem.F.slot_list_append PySem.F.type_list_append mt_append (pe_ix ix_seq (pv 6) pe_int (by intro _ _; rfl)) ha)) pss_nil) pss_nil)) (fun hl _ _ => (dsk_tl (ds_if (dw_pt (dw_or (dw_pt (dw_and (dt_cmp op_gt sim_gt (de_kept 2 (pv 2)) (de_kept 4 (pv 4)) (nomark _)) (dw_and1 (dt_ne hr.units (de_kept 6 (pv 6)) (de_tup (da_cons de_str (da_cons (de_kept 4 (pv 4)) da_nil))))))) (dw_or1 (dw_pt (dw_and (dt_cmp op_le sim_le (de_kept 2 (pv 2)) (de_kept 4 (pv 4)) (nomark _)) (dw_and1 (dt_not (dt_val (de_call F_law_alike hg (hr.mono (by decide)) (by rfl) g_law_alike k_law_alike b_law_alike (da_cons (de_kept 6 (pv 6)) (da_cons (de_tup (da_cons de_str (da_cons (de_kept 3 (pv 3)) da_nil))) da_nil))))))))))) (ds_one (ds_ret de_bl)) ds_nil) hl)))))
    (ds_one (ds_ret (de_eq hr.units (de_var 2 (pv 2)) (de_len (by rfl) z_len (da_cons (de_var 3 (pv 3)) da_nil))))))))))⟩
/-- law(_law_script) -/
def m_law (sd_law_right sd_law_ended sd_law_run sd_law_schedule sd_law_ranks sd_law_drawn_outcome sd_law_take sd_law_some_size sd_law_bag : DSp) : DTS :=
    (mSeqS (mSetO 1 (mCall [.S] sd_law_bag (mCons (mVar 0) mNil)))
    (mSeqS (mFor (mRng1 (mCons (mC (.int 3)) mNil)) (mgName 2) (mSeqS (mPar (mPCons (mCall [.M, .S] sd_law_some_size (mCons (mVar 1) (mCons (mC (.int 12)) mNil))) (mPCons (mCall [.M, .S] sd_law_take (mCons (mVar 1) (mCons (mC (.int 5)) mNil))) mPNil)) (.sh 4 :: .sh 5 :: []))
    (mSeqS (mSet 3 (mCall [.M, .S, .S] sd_law_drawn_outcome (mCons (mVar 1) (mCons (mVar 4) (mCons (mOp ixD (mLst (mCons (mC (.int 0)) (mCons (mC (.int 1)) (mCons (mOp ixD (mLst (mCons (mC (.int 3)) (mCons (mC (.int 8)) mNil))) (mCall [.M, .S] sd_law_take (mCons (mVar 1) (mCons (mC (.int 2)) mNil)))) (mCons (mOp powD (mC (.int 10)) (mC (.int 37))) (mCons (mC (.int 0)) mNil)))))) (mVar 5)) mNil)))))
    (mSeqS (mIfS (mTest (mOp eqD (mVar 5) (mC (.int 4)))) (mSet 3 (mCall [.S] sd_law_ended (mCons (mOp ixD (mCall [.S, .S] sd_law_run (mCons (mCall [.M, .S] sd_law_ranks (mCons (mVar 1) (mCons (mVar 4) mNil))) (mCons (mCall [.M, .S, .S] sd_law_schedule (mCons (mVar 1) (mCons (mVar 4) (mCons (mC (.int 200)) mNil)))) mNil))) (mC (.int 0))) mNil))) mNext)
    (mIfS (mNot (mTest (mCall [.S, .S] sd_law_right (mCons (mVar 3) (mCons (mOp neD (mVar 5) (mC (.int 3))) mNil))))) (mRet (mC (.bl false))) mNext)))))
    (mRet (mC (.bl true)))))
set_option maxHeartbeats 4000000 in
theorem walk_law {f : Addr} {fd : FuncData} (F : Fun K "law" "law" s_law f fd) {sd_law_right sd_law_ended sd_law_run sd_law_schedule sd_law_ranks sd_law_drawn_outcome sd_law_take sd_law_some_size sd_law_bag : DSp}
    {f_law_right : Addr} {fd_law_right : FuncData} (F_law_right : FnG P w K mg base 5 f_law_right fd_law_right ["_law_outcome", "_law_few"] (spD K [.S, .S] sd_law_right)) (g_law_right : mg "_law_right" = some (.ref f_law_right)) (k_law_right : PySem.W.keepIn K (.ref f_law_right) = true) (b_law_right : Binds K fd_law_right ["_law_outcome", "_law_few"] [])
    {f_law_ended : Addr} {fd_law_ended : FuncData} (F_law_ended : FnG P w K mg base 1 f_law_ended fd_law_ended ["_law_there"] (spD K [.S] sd_law_ended)) (g_law_ended : mg "_law_ended" = some (.ref f_law_ended)) (k_law_ended : PySem.W.keepIn K (.ref f_law_ended) = true) (b_law_ended : Binds K fd_law_ended ["_law_there"] [])
    {f_law_run : Addr} {fd_law_run : FuncData} (F_law_run : FnG P w K mg base 2 f_law_run fd_law_run ["_law_ranks_here", "_law_schedule_here"] (spD K [.S, .S] sd_law_run)) (g_law_run : mg "_law_run" = some (.ref f_law_run)) (k_law_run : PySem.W.keepIn K (.ref f_law_run) = true) (b_law_run : Binds K fd_law_run ["_law_ranks_here", "_law_schedule_here"] [])
    {f_law_schedule : Addr} {fd_law_schedule : FuncData} (F_law_schedule : FnG P w K mg base 2 f_law_schedule fd_law_schedule ["_law_bag_here", "_law_size", "_law_most"] (spD K [.M, .S, .S] sd_law_schedule)) (g_law_schedule : mg "_law_schedule" = some (.ref f_law_schedule)) (k_law_schedule : PySem.W.keepIn K (.ref f_law_schedule) = true) (b_law_schedule : Binds K fd_law_schedule ["_law_bag_here", "_law_size", "_law_most"] [])
    {f_law_ranks : Addr} {fd_law_ranks : FuncData} (F_law_ranks : FnG P w K mg base 2 f_law_ranks fd_law_ranks ["_law_bag_here", "_law_size"] (spD K [.M, .S] sd_law_ranks)) (g_law_ranks : mg "_law_ranks" = some (.ref f_law_ranks)) (k_law_ranks : PySem.W.keepIn K (.ref f_law_ranks) = true) (b_law_ranks : Binds K fd_law_ranks ["_law_bag_here", "_law_size"] [])
    {f_law_drawn_outcome : Addr} {fd_law_drawn_outcome : FuncData} (F_law_drawn_outcome : FnG P w K mg base 2 f_law_drawn_outcome fd_law_drawn_outcome ["_law_bag_here", "_law_size", "_law_reach"] (spD K [.M, .S, .S] sd_law_drawn_outcome)) (g_law_drawn_outcome : mg "_law_drawn_outcome" = some (.ref f_law_drawn_outcome)) (k_law_drawn_outcome : PySem.W.keepIn K (.ref f_law_drawn_outcome) = true) (b_law_drawn_outcome : Binds K fd_law_drawn_outcome ["_law_bag_here", "_law_size", "_law_reach"] [])
    {f_law_take : Addr} {fd_law_take : FuncData} (F_law_take : FnG P w K mg base 1 f_law_take fd_law_take ["_law_bag_here", "_law_many"] (spD K [.M, .S] sd_law_take)) (g_law_take : mg "_law_take" = some (.ref f_law_take)) (k_law_take : PySem.W.keepIn K (.ref f_law_take) = true) (b_law_take : Binds K fd_law_take ["_law_bag_here", "_law_many"] [])
    {f_law_some_size : Addr} {fd_law_some_size : FuncData} (F_law_some_size : FnG P w K mg base 2 f_law_some_size fd_law_some_size ["_law_bag_here", "_law_most"] (spD K [.M, .S] sd_law_some_size)) (g_law_some_size : mg "_law_some_size" = some (.ref f_law_some_size)) (k_law_some_size : PySem.W.keepIn K (.ref f_law_some_size) = true) (b_law_some_size : Binds K fd_law_some_size ["_law_bag_here", "_law_most"] [])
    {f_law_bag : Addr} {fd_law_bag : FuncData} (F_law_bag : FnG P w K mg base 1 f_law_bag fd_law_bag ["_law_script"] (spD K [.S] sd_law_bag)) (g_law_bag : mg "_law_bag" = some (.ref f_law_bag)) (k_law_bag : PySem.W.keepIn K (.ref f_law_bag) = true) (b_law_bag : Binds K fd_law_bag ["_law_script"] []) (z_range : mg "range" = none)
    {sd : DSp} (hv : ∀ ds Qd Ed, ds.length = 1 → sd ds Qd Ed → m_law sd_law_right sd_law_ended sd_law_run sd_law_schedule sd_law_ranks sd_law_drawn_outcome sd_law_take sd_law_some_size sd_law_bag (endsD [.S] Qd) (startD ["_law_script", "_law_bag_here", "_law_turn", "_law_outcome", "_law_size", "_law_way"] [.S] ds)) :
    FnG P w K mg base 6 f fd ["_law_script"] (spD K [.S] sd) := by
  refine fn_dm (N := ["_law_script", "_law_bag_here", "_law_turn", "_law_outcome", "_law_size", "_law_way"]) F sc_law rfl hv fun cdv A outer s H0 vs E O H hg hr => ?_
  have sc := sc_law
  unfold m_law
  exact ⟨_, (ds_cons (ds_setO (de_call F_law_bag hg (hr.mono (by decide)) (by rfl) g_law_bag k_law_bag b_law_bag (da_cons (de_var 0 (pv 0)) da_nil)) (fun h => ps_set (i := 1) sc.nd rfl (by first | exact Or.inl rfl | exact Or.inr rfl) h))
    (ds_cons (ds_for PassesOwn.never rfl (di_rng1 (by rfl) z_range (da_cons de_int da_nil)) (fun _ => (dg_name 2 (pg_name (i := 2) sc.nd rfl (by first | exact Or.inl rfl | exact Or.inr rfl)))) (fun _ => (ds_cons (ds_par2 (fun h => ps_par (i := 4) (j := 5) rfl sc.nd rfl rfl (by decide) rfl rfl h (by rfl)) (dp_cons (de_call F_law_some_size hg (hr.mono (by decide)) (by rfl) g_law_some_size k_law_some_size b_law_some_size (da_cons (de_var 1 (pv 1)) (da_cons de_int da_nil))) (fun _ => (dp_cons (de_call F_law_take hg (hr.mono (by decide)) (by rfl) g_law_take k_law_take b_law_take (da_cons (de_var 1 (pv 1)) (da_cons de_int da_nil))) (fun _ => dp_nil)))) (sim_tsh (sim_tsh sim_tnil 5) 4))
    (ds_cons (ds_set (de_call F_law_drawn_outcome hg (hr.mono (by decide)) (by rfl) g_law_drawn_outcome k_law_drawn_outcome b_law_drawn_outcome (da_cons (de_var 1 (pv 1)) (da_cons (de_var 4 (pv 4)) (da_cons (de_ix (de_lst (da_cons de_int (da_cons de_int (da_cons (de_ix (de_lst (da_cons de_int (da_cons de_int da_nil))) (de_call F_law_take hg (hr.mono (by decide)) (by rfl) g_law_take k_law_take b_law_take (da_cons (de_var 1 (pv 1)) (da_cons de_int da_nil)))) (da_cons (de_pow de_int de_int) (da_cons de_int da_nil)))))) (de_var 5 (pv 5))) da_nil)))) (fun h => ps_set (i := 3) sc.nd rfl (by first | exact Or.inl rfl | exact Or.inr rfl) h))
    (ds_cons (ds_if (dt_eq hr.units (de_var 5 (pv 5)) de_int) (ds_one (ds_set (de_call F_law_ended hg (hr.mono (by decide)) (by rfl) g_law_ended k_law_ended b_law_ended (da_cons (de_ix (de_call F_law_run hg (hr.mono (by decide)) (by rfl) g_law_run k_law_run b_law_run (da_cons (de_call F_law_ranks hg (hr.mono (by decide)) (by rfl) g_law_ranks k_law_ranks b_law_ranks (da_cons (de_var 1 (pv 1)) (da_cons (de_var 4 (pv 4)) da_nil))) (da_cons (de_call F_law_schedule hg (hr.mono (by decide)) (by rfl) g_law_schedule k_law_schedule b_law_schedule (da_cons (de_var 1 (pv 1)) (da_cons (de_var 4 (pv 4)) (da_cons de_int da_nil)))) da_nil))) de_int) da_nil)) (fun h => ps_set (i := 3) sc.nd rfl (by first | exact Or.inl rfl | exact Or.inr rfl) h))) ds_nil)
    (ds_one (ds_if (dt_not (dt_val (de_call F_law_right hg (hr.mono (by decide)) (by rfl) g_law_right k_law_right b_law_right (da_cons (de_var 3 (pv 3)) (da_cons (de_ne hr.units (de_var 5 (pv 5)) de_int) da_nil))))) (ds_one (ds_ret de_bl)) ds_nil)))))))
    (ds_one (ds_ret de_bl))))⟩
end
end LW
namespace LW
open PySem PySem.Spec PyProof.Rows L2 DL
set_option hygiene false in
local macro_rules | `(tactic| lcg_sub) => `(tactic| repeat (first | ((with_reducible apply e_V); exact rfl) | (with_reducible apply v_sh) | (with_reducible apply v_io) | (with_reducible apply v_ow) | (with_reducible apply v_bo) | ((with_reducible apply e_op2); exact rfl; exact rfl) | (with_reducible apply e_op) | (with_reducible apply e_cons) | (with_reducible apply e_C) | (with_reducible apply e_nil) | (with_reducible apply s_seq) | (with_reducible apply e_Tt) | (with_reducible apply e_Ff) | (with_reducible apply e_nTt) | (with_reducible apply e_nFf) | ((with_reducible apply e_dT); first | with_reducible assumption | omega | with_reducible rfl) | ((with_reducible apply e_dF); first | with_reducible assumption | omega | with_reducible rfl) | ((with_reducible apply e_nT); first | with_reducible assumption | omega | with_reducible rfl) | ((with_reducible apply e_nF); first | with_reducible assumption | omega | with_reducible rfl) | ((with_reducible apply i_ix); first | exact atI_0 | exact atI_1 | exact atI_2 | exact atI_3) | ((with_reducible apply i_ixT); first | exact atI_0 | exact atI_1 | exact atI_2 | exact atI_3) | ((with_reducible apply i_ix); first | exact atI_ints (by omega)) | ((with_reducible apply i_ixT); first | exact atI_ints (by omega)) | ((with_reducible apply e_ptV); exact rfl; (first | (simp only [wipeD, List.set_cons_zero, List.set_cons_succ]; exact rfl) | exact rfl)) | ((with_reducible apply e_ptN); exact rfl; (first | (simp only [wipeD, List.set_cons_zero, List.set_cons_succ]; exact rfl) | exact rfl)) | ((with_reducible apply e_ptF); exact rfl; (first | (simp only [wipeD, List.set_cons_zero, List.set_cons_succ]; exact rfl) | exact rfl); first | exact rfl | exact bag_frD (by assumption)) | ((with_reducible apply d_val); exact rfl) | ((with_reducible apply d_fr); exact rfl) | ((with_reducible apply d_pl); exact rfl; exact rfl) | ((with_reducible apply d_np); exact rfl) | ((with_reducible apply e_call); exact rfl; (first | exact rfl | decide); exact rfl) | (with_reducible apply e_test) | (with_reducible apply e_tst) | ((with_reducible apply e_cb); exact rfl) | (with_reducible apply e_andv) | ((with_reducible apply e_lst); exact rfl; first | decide | (simp only [List.length_cons, List.length_nil]; omega) | rotate_left) | (with_reducible apply e_yes) | ((with_reducible apply c_fk); exact rfl; (first | (simp only [restD, List.set_cons_zero, List.set_cons_succ, List.getElem?_cons_zero, List.getElem?_cons_succ, Option.getD_some]; exact rfl) | exact rfl)) | ((with_reducible apply gkT); first | (with_reducible apply t_nil) | ((with_reducible apply t_sh); exact rfl; (first | exact rfl | assumption); (first | (simp only [wipeD, List.set_cons_zero, List.set_cons_succ]; exact rfl) | exact rfl)) | ((with_reducible apply t_ow); (first | exact rfl | assumption); (first | (simp only [wipeD, List.set_cons_zero, List.set_cons_succ]; exact rfl) | exact rfl)) | ((with_reducible apply t_sub); exact rfl) | ((with_reducible apply t_gen); exact rfl) | ((with_reducible apply s_set); exact rfl; (first | exact rfl | assumption); (first | (simp only [wipeD, List.set_cons_zero, List.set_cons_succ]; exact rfl) | exact rfl)) | ((with_reducible apply g_name); (first | exact rfl | assumption); (first | (simp only [wipeD, List.set_cons_zero, List.set_cons_succ]; exact rfl) | exact rfl)) | (with_reducible apply g_cons) | (with_reducible apply g_Sub) | ((with_reducible apply g_sub); exact rfl; exact rfl) | ((with_reducible apply s_asg); exact rfl) | ((with_reducible apply s_setO); (first | exact rfl | assumption); (first | (simp only [wipeD, List.set_cons_zero, List.set_cons_succ]; exact rfl) | exact rfl)) | (with_reducible apply g_nil) | ((with_reducible apply g_tup); exact rfl) | ((with_reducible apply s_a1); exact rfl; first | exact atI_0 | exact atI_1 | exact atI_2 | exact atI_3 | exact atI_ints (by omega)) | ((with_reducible apply s_a2); exact rfl) | ((with_reducible apply s_setF); exact rfl; exact rfl; decide; exact rfl; exact rfl; exact rfl; (first | (simp only [wipeD, List.set_cons_zero, List.set_cons_succ]; exact rfl) | exact rfl)) | ((with_reducible apply s_setEv); (first | exact rfl | assumption); (first | (simp only [wipeD, List.set_cons_zero, List.set_cons_succ]; exact rfl) | exact rfl)) | ((with_reducible apply s_setEo); (first | exact rfl | assumption); (first | (simp only [wipeD, List.set_cons_zero, List.set_cons_succ]; exact rfl) | exact rfl)) | ((with_reducible apply g_unl); exact rfl) | ((with_reducible apply s_aug); exact rfl) | (with_reducible apply g_Slc) | (with_reducible apply g_All) | ((with_reducible apply g_all); exact rfl; (simp only [List.length_map, List.length_append, List.length_cons, List.length_nil] at *; omega); exact rfl; (first | (simp only [wipeD, List.set_cons_zero, List.set_cons_succ]; exact rfl) | exact rfl))) | ((with_reducible apply gkO); first | (with_reducible apply i_add) | ((with_reducible apply i_addL); first | (simp only [List.length_map, List.length_append, List.length_cons, List.length_nil] at *; omega) | rotate_left) | ((with_reducible apply i_addS); rotate_left) | (with_reducible apply i_sub) | ((with_reducible apply i_mul); first | exact mulOk_r (by decide) (by decide) | exact mulOk_l (by decide) (by decide) | exact mulOk_r (by omega) (by omega) | exact mulOk_l (by omega) (by omega) | rotate_left) | ((with_reducible apply i_mulR); omega) | ((with_reducible apply i_mod); first | decide | with_reducible assumption | omega | rotate_left) | (with_reducible apply i_eqI) | (with_reducible apply i_eqL) | (with_reducible apply i_eqT) | (with_reducible apply i_eqB) | (with_reducible apply i_gt) | (with_reducible apply i_lt) | (with_reducible apply i_ge) | ((with_reducible apply i_div); first | exact divW_of (by decide) (by decide) | exact divW_of (by omega) (by omega) | rotate_left) | ((with_reducible apply i_powN); (simp only [Int.reduceToNat]; exact rfl); exact ⟨by decide, by decide⟩) | ((with_reducible apply i_pow); first | exact ⟨by decide, by decide⟩ | rotate_left) | (with_reducible apply i_neI) | (with_reducible apply i_neL) | (with_reducible apply i_neT) | (with_reducible apply i_neB) | (with_reducible apply i_neg) | (with_reducible apply i_eqEmp) | (with_reducible apply i_neEmp) | (with_reducible apply i_addI) | (with_reducible apply i_le) | (with_reducible apply i_inSS) | (with_reducible apply i_subI) | (with_reducible apply i_isB) | (with_reducible apply i_isnB)) | ((with_reducible apply gkE); first | (with_reducible apply e_Call) | (with_reducible apply e_CB) | (with_reducible apply w_Comp) | (with_reducible apply e_Lst) | (with_reducible apply e_Fld) | ((with_reducible apply e_fld); exact rfl; first | exact fld_1 | exact fld_2 (by decide +kernel) | rotate_left) | (with_reducible apply e_Isi) | ((with_reducible apply e_isiT); exact rfl; exact rfl; exact rfl) | ((with_reducible apply e_isiF); exact rfl; exact rfl; exact rfl) | (with_reducible apply e_andV) | (with_reducible apply e_Tup) | (with_reducible apply e_Mut) | ((with_reducible apply e_mu0); exact rfl) | ((with_reducible apply e_mu1); exact rfl; exact rfl) | (with_reducible apply e_if) | (with_reducible apply e_un) | (with_reducible apply e_LRg) | ((with_reducible apply e_lrg); exact RgOk.of_le (by omega) (by omega) (by omega) (by omega)) | ((with_reducible apply e_isiTuT); exact rfl; exact rfl; exact rfl) | ((with_reducible apply e_isiTuF); exact rfl; exact rfl; exact rfl) | (with_reducible apply e_Sl) | (with_reducible apply e_Make) | (with_reducible apply e_notV) | (with_reducible apply e_notv) | (with_reducible apply e_IsiTu) | ((with_reducible apply e_xisTF); (first | exact rfl | decide +kernel)) | ((with_reducible apply e_xisTT); (first | exact rfl | decide +kernel)) | (with_reducible apply e_Chain) | (with_reducible apply e_ch1) | (with_reducible apply e_ch2) | ((with_reducible apply e_MakeL); exact rfl) | (with_reducible apply e_NeTO) | (with_reducible apply e_SortItems) | (with_reducible apply e_Count) | ((with_reducible apply e_cna); exact rfl; exact rfl) | ((with_reducible apply i_count); exact rfl; exact rfl) | (with_reducible apply e_Index) | ((with_reducible apply e_ida); exact rfl; exact rfl) | (with_reducible apply e_XisT) | (with_reducible apply e_orV) | (with_reducible apply e_RevL) | (with_reducible apply e_TRg) | (with_reducible apply e_SRg) | (with_reducible apply e_Dict0) | ((with_reducible apply e_revL); exact rfl) | (with_reducible apply w_SS) | (with_reducible apply w_Comp2) | (with_reducible apply e_ReprO) | (with_reducible apply e_LenO) | ((with_reducible apply e_reprO); exact rfl) | ((with_reducible apply e_lenO); exact rfl) | (with_reducible apply e_Fmt) | ((with_reducible apply e_fmtL); exact rfl; rotate_left) | (with_reducible apply e_Joined) | (with_reducible apply e_MutF) | (with_reducible apply e_mutF) | ((with_reducible apply w_ss); exact rfl; (first | omega | rotate_left); intro sset hsset hsset2) | (with_reducible apply e_IsO) | ((with_reducible apply e_isO); exact rfl; first | exact isO_self | exact rfl) | (with_reducible apply e_EqO) | ((with_reducible apply e_eqO); exact rfl; exact rfl) | ((with_reducible apply e_trg); exact RgOk.of_le (by omega) (by omega) (by omega) (by omega)) | ((with_reducible apply e_srg); exact RgOk.of_le (by omega) (by omega) (by omega) (by omega)) | ((with_reducible apply e_Bor); (first | (simp only [allSh, shS, List.map_cons, List.map_nil]; exact rfl) | exact rfl)) | ((with_reducible apply e_kb); exact rfl) | ((with_reducible apply e_ks); exact rfl) | ((with_reducible apply e_ko); exact rfl) | (with_reducible apply e_CallX) | (with_reducible apply e_Xis) | ((with_reducible apply e_xis); (first | exact rfl | decide +kernel)) | (with_reducible apply e_Xf) | ((with_reducible apply e_xf); (first | exact rfl | decide +kernel); (first | exact rfl | decide +kernel)) | (with_reducible apply e_DGet2) | (with_reducible apply e_DGet1) | (with_reducible apply e_Lock) | (with_reducible apply e_lkK) | (with_reducible apply e_lkT) | (with_reducible apply e_Dict1) | (with_reducible apply e_Dict0T) | (with_reducible apply e_Dict1T) | ((with_reducible apply e_g2a); exact rfl; exact rfl) | ((with_reducible apply e_g1a); exact rfl; exact rfl) | ((with_reducible apply e_d1); exact rfl; exact rfl) | ((with_reducible apply e_d1s); exact rfl; exact rfl) | ((with_reducible apply e_d1T); exact rfl; exact rfl) | (with_reducible apply e_EqX) | (with_reducible apply e_OrT) | ((with_reducible apply e_eqX); exact rfl; exact rfl; exact rfl)) | ((with_reducible apply gkS); first | (with_reducible apply s_ret) | (with_reducible apply s_Set) | (with_reducible apply s_if) | (with_reducible apply s_next) | (with_reducible apply s_Par) | (with_reducible apply s_For) | (with_reducible apply s_Asg) | (with_reducible apply s_drop) | (with_reducible apply s_SetO) | (with_reducible apply s_Par3) | ((with_reducible apply s_frz); exact rfl) | (with_reducible apply s_AugS) | (with_reducible apply s_SetF) | (with_reducible apply s_brk) | (with_reducible apply s_cnt) | (with_reducible apply s_retN) | (with_reducible apply s_SetE) | ((with_reducible apply s_Aug); exact rfl) | (with_reducible apply s_Scr) | (with_reducible apply s_Raise) | (with_reducible apply s_TryAs) | (with_reducible apply s_Try) | (with_reducible apply s_DPut) | ((with_reducible apply s_frzL); exact rfl; exact rfl; (first | (simp only [wipeD, List.set_cons_zero, List.set_cons_succ]; exact rfl) | exact rfl)) | ((with_reducible apply s_Np); (first | exact rfl | (simp only [freeE, Bool.and_eq_true, Bool.and_true]; (repeat' constructor) <;> first | rfl | assumption)); exact rfl; (first | (simp only [boxE, boxS]; exact rfl) | exact rfl)) | (with_reducible apply s_RetNP)) | ((with_reducible apply gkB); first | (with_reducible apply i_lenI) | (with_reducible apply i_len) | (with_reducible apply i_lenTI) | (with_reducible apply i_lenT) | (with_reducible apply i_lenC) | ((with_reducible apply i_lenS); first | omega | with_reducible assumption | rotate_left) | (with_reducible apply i_min) | ((with_reducible apply i_minL); (first | omega | rotate_left); intro least hleast hleast2) | ((with_reducible apply i_minT); (first | omega | rotate_left); intro least hleast hleast2) | (with_reducible apply i_list) | (with_reducible apply i_listT) | (with_reducible apply i_listC) | (with_reducible apply i_abs) | (with_reducible apply i_int) | (with_reducible apply i_intB) | (with_reducible apply i_max) | ((with_reducible apply i_maxL); (first | omega | rotate_left); intro most hmost hmost2) | ((with_reducible apply i_maxT); (first | omega | rotate_left); intro most hmost hmost2) | (with_reducible apply i_all) | ((with_reducible apply i_divmod); first | exact ⟨by omega, by omega⟩ | rotate_left) | (with_reducible apply i_tuple) | (with_reducible apply i_tupleT) | (with_reducible apply i_sum) | (with_reducible apply i_sumT) | (with_reducible apply i_any) | (with_reducible apply i_repr0)) | ((with_reducible apply gkL); first | (with_reducible apply p_Cons) | ((with_reducible apply p_cons); exact rfl) | (with_reducible apply p_nil) | (with_reducible apply e_Self) | ((with_reducible apply e_self); exact rfl; decide +kernel) | (with_reducible apply e_Self1) | ((with_reducible apply e_self1); exact rfl) | (with_reducible apply e_PairO) | ((with_reducible apply e_pairO); exact rfl; exact rfl) | (with_reducible apply e_Cls) | (with_reducible apply e_Snoc)) | ((with_reducible apply gkW); first | (with_reducible apply w_Seq) | ((with_reducible apply w_seq); exact rfl; exact rfl) | (with_reducible apply w_Rng1) | ((with_reducible apply w_rng1); first | decide | omega | rotate_left) | (with_reducible apply w_SeqT) | ((with_reducible apply w_seqt); exact rfl) | (with_reducible apply w_Enum) | ((with_reducible apply w_enum); exact rfl; exact rfl) | (with_reducible apply w_Rng2) | ((with_reducible apply w_rng2); first | decide | omega | rotate_left) | (with_reducible apply w_Zip) | ((with_reducible apply w_zip); exact rfl; exact rfl) | (with_reducible apply w_Rev) | ((with_reducible apply w_rvd); exact rfl; exact rfl) | (with_reducible apply w_KeysW) | (with_reducible apply w_ItemsW) | (with_reducible apply w_ValsW) | ((with_reducible apply w_kw); intro dko dkv) | (with_reducible apply w_Rng3)) | ((with_reducible apply gkX); first | ((with_reducible apply i_take); with_reducible assumption; (first | decide | omega | rotate_left); (first | decide | omega | rotate_left); intro drawn bag hdrawn0 hdrawn1 hbag) | ((with_reducible apply i_bag); intro bag hbag) | ((with_reducible apply i_endof); (first | decide | with_reducible assumption | omega | (simp only [List.length_map, List.length_append, List.length_cons, List.length_nil] at *; omega) | rotate_left); (first | decide | with_reducible assumption | omega | (simp only [List.length_map, List.length_append, List.length_cons, List.length_nil] at *; omega) | rotate_left)) | ((with_reducible apply i_standing); (first | decide | with_reducible assumption | omega | (simp only [List.length_map, List.length_append, List.length_cons, List.length_nil] at *; omega) | rotate_left)) | ((with_reducible apply i_sched); (first | decide | with_reducible assumption | omega | (simp only [List.length_map, List.length_append, List.length_cons, List.length_nil] at *; omega) | rotate_left); (first | decide | with_reducible assumption | omega | (simp only [List.length_map, List.length_append, List.length_cons, List.length_nil] at *; omega) | rotate_left); (first | decide | with_reducible assumption | omega | (simp only [List.length_map, List.length_append, List.length_cons, List.length_nil] at *; omega) | rotate_left); (first | decide | with_reducible assumption | omega | (simp only [List.length_map, List.length_append, List.length_cons, List.length_nil] at *; omega) | rotate_left); (first | decide | with_reducible assumption | omega | (simp only [List.length_map, List.length_append, List.length_cons, List.length_nil] at *; omega) | rotate_left); intro gaps bag hgapsl hgaps hbag) | ((with_reducible apply i_ranks); (first | decide | with_reducible assumption | omega | (simp only [List.length_map, List.length_append, List.length_cons, List.length_nil] at *; omega) | rotate_left); (first | decide | with_reducible assumption | omega | (simp only [List.length_map, List.length_append, List.length_cons, List.length_nil] at *; omega) | rotate_left); (first | decide | with_reducible assumption | omega | (simp only [List.length_map, List.length_append, List.length_cons, List.length_nil] at *; omega) | rotate_left); intro ranks bag hranksl hranksb hbag) | ((with_reducible apply i_some); (first | decide | with_reducible assumption | omega | (simp only [List.length_map, List.length_append, List.length_cons, List.length_nil] at *; omega) | rotate_left); (first | decide | with_reducible assumption | omega | (simp only [List.length_map, List.length_append, List.length_cons, List.length_nil] at *; omega) | rotate_left); (first | decide | with_reducible assumption | omega | (simp only [List.length_map, List.length_append, List.length_cons, List.length_nil] at *; omega) | rotate_left); intro size bag hsize0 hsize1 hbag)) | ((with_reducible apply g_set); exact rfl; (first | (simp only [wipeD, List.set_cons_zero, List.set_cons_succ]; exact rfl) | exact rfl)) | ((with_reducible apply i_stN); (first | omega | (simp only [List.length_set]; omega))) | ((with_reducible apply i_stP); omega; (first | omega | (simp only [List.length_set]; omega))) | ((with_reducible apply i_st); first | exact ixN_0 | exact ixN_1 | exact ixN_2 | exact ixN_3 | exact ixN_pos (by omega) (by omega)) | ((with_reducible apply e_tup); exact rfl; first | decide | (simp only [List.length_cons, List.length_nil]; omega) | rotate_left) | ((with_reducible apply e_st); exact rfl; (first | (simp only [wipeD, List.set_cons_zero, List.set_cons_succ]; exact rfl) | exact rfl)) | ((with_reducible apply i_appendI); first | omega | (simp only [List.length_append, List.length_cons, List.length_nil] at *; omega) | rotate_left) | ((with_reducible apply i_append); first | decide | omega | (simp only [List.length_map, List.length_append, List.length_cons, List.length_nil] at *; omega) | rotate_left) | ((with_reducible apply s_par3); exact rfl) | ((with_reducible apply c_ik); exact rfl; (first | omega | (simp only [List.length_append, List.length_cons, List.length_nil, List.length_map] at *; omega) | rotate_left); (first | (simp only [restD, List.set_cons_zero, List.set_cons_succ, List.getElem?_cons_zero, List.getElem?_cons_succ, Option.getD_some]; exact rfl) | exact rfl)) | (with_reducible apply e_Rg1) | (with_reducible apply e_rg1) | ((with_reducible apply e_op1); exact rfl) | ((with_reducible apply e_make); exact rfl; (first | exact rfl | decide); exact rfl) | ((with_reducible apply e_mak); exact rfl; (first | (simp only [wipeD, List.set_cons_zero, List.set_cons_succ]; exact rfl) | exact rfl)) | (with_reducible apply e_or) | (with_reducible apply e_not) | (with_reducible apply i_sl1) | (with_reducible apply i_slL) | (with_reducible apply i_slC) | (with_reducible apply e_noP) | (with_reducible apply e_Part) | (with_reducible apply e_part) | ((with_reducible apply e_sl); exact rfl) | ((with_reducible apply s_a3); exact rfl; (first | exact ixN_0 | exact ixN_1 | exact ixN_2 | exact ixN_3 | exact ixN_pos (by omega) (by omega)); exact rfl; (first | (simp only [wipeD, List.set_cons_zero, List.set_cons_succ]; exact rfl) | exact rfl)) | (with_reducible apply e_and) | (with_reducible apply i_reverse) | (with_reducible apply i_clear) | (with_reducible apply e_orv) | (with_reducible apply e_Rg2) | (with_reducible apply e_rg2) | ((with_reducible apply s_av); (first | exact rfl | assumption); (first | (simp only [wipeD, List.set_cons_zero, List.set_cons_succ]; exact rfl) | exact rfl)) | (with_reducible apply rpk_in) | ((with_reducible apply lnk_in); (first | omega | rotate_left); (first | omega | rotate_left)) | (with_reducible apply e_jsN) | (with_reducible apply e_Js) | ((with_reducible apply e_js); rotate_left) | ((with_reducible apply i_popI); omega; omega; omega) | ((with_reducible apply i_insert0); first | decide | omega | rotate_left) | (with_reducible apply e_eqkI) | (with_reducible apply e_eqkF) | (with_reducible apply e_eqkT) | (with_reducible apply e_eqk) | ((with_reducible apply e_bor); exact rfl) | ((with_reducible apply s_scr); exact rfl; (simp only [List.length_cons, List.length_nil]; omega); (first | exact rfl | (simp only [freeE, Bool.and_eq_true, Bool.and_true]; (repeat' constructor) <;> first | rfl | assumption)); decide; (first | (simp only [killE]; exact rfl) | exact rfl); (first | (simp only [boxE, boxS, List.set_cons_zero, List.set_cons_succ]; exact rfl) | exact rfl); rotate_left) | ((with_reducible apply b_nx); exact rfl) | ((with_reducible apply b_rt); exact rfl; exact rfl) | ((with_reducible apply e_callX); exact rfl; (first | exact rfl | decide); exact rfl) | ((with_reducible apply e_xt); exact rfl; (first | (simp only [wipeD, List.set_cons_zero, List.set_cons_succ]; exact rfl) | exact rfl)) | ((with_reducible apply s_raise); exact rfl; exact rfl; (simp only [List.length_cons, List.length_nil]; omega); exact rfl; exact rfl) | ((with_reducible apply d_x); exact rfl) | ((with_reducible apply x_T); (first | exact rfl | decide +kernel); exact rfl; intro xa xG hxG; simp only [List.set_cons_zero, List.set_cons_succ] at hxG; subst hxG) | ((with_reducible apply x_F); (first | exact rfl | decide +kernel)) | ((with_reducible apply y_T); (first | exact rfl | decide +kernel); intro xa) | ((with_reducible apply y_F); (first | exact rfl | decide +kernel)) | ((with_reducible apply u_nk); exact rfl; (first | (simp only [wipeD, List.set_cons_zero, List.set_cons_succ]; exact rfl) | exact rfl)) | ((with_reducible apply w_down); first | omega | rotate_left) | ((with_reducible apply s_npk); (first | exact rfl | (simp only [boxE, boxS])); (first | (simp only [killE]; exact rfl) | exact rfl); (first | (simp only [List.set_cons_zero, List.set_cons_succ]; exact rfl) | exact rfl); first | decide | omega | (simp only [List.length_map, List.length_append, List.length_cons, List.length_nil] at *; omega) | rotate_left) | ((with_reducible apply s_npkV); (first | exact rfl | (simp only [boxE, boxS])); (first | (simp only [killE]; exact rfl) | exact rfl); (first | (simp only [List.set_cons_zero, List.set_cons_succ]; exact rfl) | exact rfl)) | (with_reducible apply s_npv) | ((with_reducible apply s_npw); (first | exact rfl | decide | (refine decide_eq_false ?_; omega) | rotate_left); exact rfl) | (with_reducible apply s_npn) | ((with_reducible apply s_kill); exact rfl) | ((with_reducible apply s_klk); exact rfl) | ((with_reducible apply s_npe); exact rfl) | ((with_reducible apply s_rnpF); exact rfl) | ((with_reducible apply s_rnpP); exact rfl; exact rfl; (first | (simp only [wipeD, List.set_cons_zero, List.set_cons_succ]; exact rfl) | exact rfl))))
set_option hygiene false in
local macro_rules | `(tactic| lcg_off) => `(tactic| repeat' (first | ((with_reducible apply e_V); exact rfl) | (with_reducible apply v_sh) | (with_reducible apply v_io) | (with_reducible apply v_ow) | (with_reducible apply v_bo) | ((with_reducible apply e_op2); exact rfl; exact rfl) | (with_reducible apply e_op) | (with_reducible apply e_cons) | (with_reducible apply e_C) | (with_reducible apply e_nil) | (with_reducible apply s_seq) | (with_reducible apply e_Tt) | (with_reducible apply e_Ff) | (with_reducible apply e_nTt) | (with_reducible apply e_nFf) | ((with_reducible apply e_dT); first | with_reducible assumption | omega | with_reducible rfl) | ((with_reducible apply e_dF); first | with_reducible assumption | omega | with_reducible rfl) | ((with_reducible apply e_nT); first | with_reducible assumption | omega | with_reducible rfl) | ((with_reducible apply e_nF); first | with_reducible assumption | omega | with_reducible rfl) | ((with_reducible apply i_ix); first | exact atI_0 | exact atI_1 | exact atI_2 | exact atI_3) | ((with_reducible apply i_ixT); first | exact atI_0 | exact atI_1 | exact atI_2 | exact atI_3) | ((with_reducible apply i_ix); first | exact atI_ints (by omega)) | ((with_reducible apply i_ixT); first | exact atI_ints (by omega)) | ((with_reducible apply e_ptV); exact rfl; (first | (simp only [wipeD, List.set_cons_zero, List.set_cons_succ]; exact rfl) | exact rfl)) | ((with_reducible apply e_ptN); exact rfl; (first | (simp only [wipeD, List.set_cons_zero, List.set_cons_succ]; exact rfl) | exact rfl)) | ((with_reducible apply e_ptF); exact rfl; (first | (simp only [wipeD, List.set_cons_zero, List.set_cons_succ]; exact rfl) | exact rfl); first | exact rfl | exact bag_frD (by assumption)) | ((with_reducible apply d_val); exact rfl) | ((with_reducible apply d_fr); exact rfl) | ((with_reducible apply d_pl); exact rfl; exact rfl) | ((with_reducible apply d_np); exact rfl) | ((with_reducible apply e_call); exact rfl; (first | exact rfl | decide); exact rfl) | (with_reducible apply e_test) | (with_reducible apply e_tst) | ((with_reducible apply e_cb); exact rfl) | (with_reducible apply e_andv) | ((with_reducible apply e_lst); exact rfl; first | decide | (simp only [List.length_cons, List.length_nil]; omega) | rotate_left) | (with_reducible apply e_yes) | ((with_reducible apply c_fk); exact rfl; (first | (simp only [restD, List.set_cons_zero, List.set_cons_succ, List.getElem?_cons_zero, List.getElem?_cons_succ, Option.getD_some]; exact rfl) | exact rfl)) | ((with_reducible apply gkT); first | (with_reducible apply t_nil) | ((with_reducible apply t_sh); exact rfl; (first | exact rfl | assumption); (first | (simp only [wipeD, List.set_cons_zero, List.set_cons_succ]; exact rfl) | exact rfl)) | ((with_reducible apply t_ow); (first | exact rfl | assumption); (first | (simp only [wipeD, List.set_cons_zero, List.set_cons_succ]; exact rfl) | exact rfl)) | ((with_reducible apply t_sub); exact rfl) | ((with_reducible apply t_gen); exact rfl) | ((with_reducible apply s_set); exact rfl; (first | exact rfl | assumption); (first | (simp only [wipeD, List.set_cons_zero, List.set_cons_succ]; exact rfl) | exact rfl)) | ((with_reducible apply g_name); (first | exact rfl | assumption); (first | (simp only [wipeD, List.set_cons_zero, List.set_cons_succ]; exact rfl) | exact rfl)) | (with_reducible apply g_cons) | (with_reducible apply g_Sub) | ((with_reducible apply g_sub); exact rfl; exact rfl) | ((with_reducible apply s_asg); exact rfl) | ((with_reducible apply s_setO); (first | exact rfl | assumption); (first | (simp only [wipeD, List.set_cons_zero, List.set_cons_succ]; exact rfl) | exact rfl)) | (with_reducible apply g_nil) | ((with_reducible apply g_tup); exact rfl) | ((with_reducible apply s_a1); exact rfl; first | exact atI_0 | exact atI_1 | exact atI_2 | exact atI_3 | exact atI_ints (by omega)) | ((with_reducible apply s_a2); exact rfl) | ((with_reducible apply s_setF); exact rfl; exact rfl; decide; exact rfl; exact rfl; exact rfl; (first | (simp only [wipeD, List.set_cons_zero, List.set_cons_succ]; exact rfl) | exact rfl)) | ((with_reducible apply s_setEv); (first | exact rfl | assumption); (first | (simp only [wipeD, List.set_cons_zero, List.set_cons_succ]; exact rfl) | exact rfl)) | ((with_reducible apply s_setEo); (first | exact rfl | assumption); (first | (simp only [wipeD, List.set_cons_zero, List.set_cons_succ]; exact rfl) | exact rfl)) | ((with_reducible apply g_unl); exact rfl) | ((with_reducible apply s_aug); exact rfl) | (with_reducible apply g_Slc) | (with_reducible apply g_All) | ((with_reducible apply g_all); exact rfl; (simp only [List.length_map, List.length_append, List.length_cons, List.length_nil] at *; omega); exact rfl; (first | (simp only [wipeD, List.set_cons_zero, List.set_cons_succ]; exact rfl) | exact rfl))) | ((with_reducible apply gkO); first | (with_reducible apply i_add) | ((with_reducible apply i_addL); first | (simp only [List.length_map, List.length_append, List.length_cons, List.length_nil] at *; omega) | rotate_left) | ((with_reducible apply i_addS); rotate_left) | (with_reducible apply i_sub) | ((with_reducible apply i_mul); first | exact mulOk_r (by decide) (by decide) | exact mulOk_l (by decide) (by decide) | exact mulOk_r (by omega) (by omega) | exact mulOk_l (by omega) (by omega) | rotate_left) | ((with_reducible apply i_mulR); omega) | ((with_reducible apply i_mod); first | decide | with_reducible assumption | omega | rotate_left) | (with_reducible apply i_eqI) | (with_reducible apply i_eqL) | (with_reducible apply i_eqT) | (with_reducible apply i_eqB) | (with_reducible apply i_gt) | (with_reducible apply i_lt) | (with_reducible apply i_ge) | ((with_reducible apply i_div); first | exact divW_of (by decide) (by decide) | exact divW_of (by omega) (by omega) | rotate_left) | ((with_reducible apply i_powN); (simp only [Int.reduceToNat]; exact rfl); exact ⟨by decide, by decide⟩) | ((with_reducible apply i_pow); first | exact ⟨by decide, by decide⟩ | rotate_left) | (with_reducible apply i_neI) | (with_reducible apply i_neL) | (with_reducible apply i_neT) | (with_reducible apply i_neB) | (with_reducible apply i_neg) | (with_reducible apply i_eqEmp) | (with_reducible apply i_neEmp) | (with_reducible apply i_addI) | (with_reducible apply i_le) | (with_reducible apply i_inSS) | (with_reducible apply i_subI) | (with_reducible apply i_isB) | (with_reducible apply i_isnB)) | ((with_reducible apply gkE); first | (with_reducible apply e_Call) | (with_reducible apply e_CB) | (with_reducible apply w_Comp) | (with_reducible apply e_Lst) | (with_reducible apply e_Fld) | ((with_reducible apply e_fld); exact rfl; first | exact fld_1 | exact fld_2 (by decide +kernel) | rotate_left) | (with_reducible apply e_Isi) | ((with_reducible apply e_isiT); exact rfl; exact rfl; exact rfl) | ((with_reducible apply e_isiF); exact rfl; exact rfl; exact rfl) | (with_reducible apply e_andV) | (with_reducible apply e_Tup) | (with_reducible apply e_Mut) | ((with_reducible apply e_mu0); exact rfl) | ((with_reducible apply e_mu1); exact rfl; exact rfl) | (with_reducible apply e_if) | (with_reducible apply e_un) | (with_reducible apply e_LRg) | ((with_reducible apply e_lrg); exact RgOk.of_le (by omega) (by omega) (by omega) (by omega)) | ((with_reducible apply e_isiTuT); exact rfl; exact rfl; exact rfl) | ((with_reducible apply e_isiTuF); exact rfl; exact rfl; exact rfl) | (with_reducible apply e_Sl) | (with_reducible apply e_Make) | (with_reducible apply e_notV) | (with_reducible apply e_notv) | (with_reducible apply e_IsiTu) | ((with_reducible apply e_xisTF); (first | exact rfl | decide +kernel)) | ((with_reducible apply e_xisTT); (first | exact rfl | decide +kernel)) | (with_reducible apply e_Chain) | (with_reducible apply e_ch1) | (with_reducible apply e_ch2) | ((with_reducible apply e_MakeL); exact rfl) | (with_reducible apply e_NeTO) | (with_reducible apply e_SortItems) | (with_reducible apply e_Count) | ((with_reducible apply e_cna); exact rfl; exact rfl) | ((with_reducible apply i_count); exact rfl; exact rfl) | (with_reducible apply e_Index) | ((with_reducible apply e_ida); exact rfl; exact rfl) | (with_reducible apply e_XisT) | (with_reducible apply e_orV) | (with_reducible apply e_RevL) | (with_reducible apply e_TRg) | (with_reducible apply e_SRg) | (with_reducible apply e_Dict0) | ((with_reducible apply e_revL); exact rfl) | (with_reducible apply w_SS) | (with_reducible apply w_Comp2) | (with_reducible apply e_ReprO) | (with_reducible apply e_LenO) | ((with_reducible apply e_reprO); exact rfl) | ((with_reducible apply e_lenO); exact rfl) | (with_reducible apply e_Fmt) | ((with_reducible apply e_fmtL); exact rfl; rotate_left) | (with_reducible apply e_Joined) | (with_reducible apply e_MutF) | (with_reducible apply e_mutF) | ((with_reducible apply w_ss); exact rfl; (first | omega | rotate_left); intro sset hsset hsset2) | (with_reducible apply e_IsO) | ((with_reducible apply e_isO); exact rfl; first | exact isO_self | exact rfl) | (with_reducible apply e_EqO) | ((with_reducible apply e_eqO); exact rfl; exact rfl) | ((with_reducible apply e_trg); exact RgOk.of_le (by omega) (by omega) (by omega) (by omega)) | ((with_reducible apply e_srg); exact RgOk.of_le (by omega) (by omega) (by omega) (by omega)) | ((with_reducible apply e_Bor); (first | (simp only [allSh, shS, List.map_cons, List.map_nil]; exact rfl) | exact rfl)) | ((with_reducible apply e_kb); exact rfl) | ((with_reducible apply e_ks); exact rfl) | ((with_reducible apply e_ko); exact rfl) | (with_reducible apply e_CallX) | (with_reducible apply e_Xis) | ((with_reducible apply e_xis); (first | exact rfl | decide +kernel)) | (with_reducible apply e_Xf) | ((with_reducible apply e_xf); (first | exact rfl | decide +kernel); (first | exact rfl | decide +kernel)) | (with_reducible apply e_DGet2) | (with_reducible apply e_DGet1) | (with_reducible apply e_Lock) | (with_reducible apply e_lkK) | (with_reducible apply e_lkT) | (with_reducible apply e_Dict1) | (with_reducible apply e_Dict0T) | (with_reducible apply e_Dict1T) | ((with_reducible apply e_g2a); exact rfl; exact rfl) | ((with_reducible apply e_g1a); exact rfl; exact rfl) | ((with_reducible apply e_d1); exact rfl; exact rfl) | ((with_reducible apply e_d1s); exact rfl; exact rfl) | ((with_reducible apply e_d1T); exact rfl; exact rfl) | (with_reducible apply e_EqX) | (with_reducible apply e_OrT) | ((with_reducible apply e_eqX); exact rfl; exact rfl; exact rfl)) | ((with_reducible apply gkS); first | (with_reducible apply s_ret) | (with_reducible apply s_Set) | (with_reducible apply s_if) | (with_reducible apply s_next) | (with_reducible apply s_Par) | (with_reducible apply s_For) | (with_reducible apply s_Asg) | (with_reducible apply s_drop) | (with_reducible apply s_SetO) | (with_reducible apply s_Par3) | ((with_reducible apply s_frz); exact rfl) | (with_reducible apply s_AugS) | (with_reducible apply s_SetF) | (with_reducible apply s_brk) | (with_reducible apply s_cnt) | (with_reducible apply s_retN) | (with_reducible apply s_SetE) | ((with_reducible apply s_Aug); exact rfl) | (with_reducible apply s_Scr) | (with_reducible apply s_Raise) | (with_reducible apply s_TryAs) | (with_reducible apply s_Try) | (with_reducible apply s_DPut) | ((with_reducible apply s_frzL); exact rfl; exact rfl; (first | (simp only [wipeD, List.set_cons_zero, List.set_cons_succ]; exact rfl) | exact rfl)) | ((with_reducible apply s_Np); (first | exact rfl | (simp only [freeE, Bool.and_eq_true, Bool.and_true]; (repeat' constructor) <;> first | rfl | assumption)); exact rfl; (first | (simp only [boxE, boxS]; exact rfl) | exact rfl)) | (with_reducible apply s_RetNP)) | ((with_reducible apply gkB); first | (with_reducible apply i_lenI) | (with_reducible apply i_len) | (with_reducible apply i_lenTI) | (with_reducible apply i_lenT) | (with_reducible apply i_lenC) | ((with_reducible apply i_lenS); first | omega | with_reducible assumption | rotate_left) | (with_reducible apply i_min) | ((with_reducible apply i_minL); (first | omega | rotate_left); intro least hleast hleast2) | ((with_reducible apply i_minT); (first | omega | rotate_left); intro least hleast hleast2) | (with_reducible apply i_list) | (with_reducible apply i_listT) | (with_reducible apply i_listC) | (with_reducible apply i_abs) | (with_reducible apply i_int) | (with_reducible apply i_intB) | (with_reducible apply i_max) | ((with_reducible apply i_maxL); (first | omega | rotate_left); intro most hmost hmost2) | ((with_reducible apply i_maxT); (first | omega | rotate_left); intro most hmost hmost2) | (with_reducible apply i_all) | ((with_reducible apply i_divmod); first | exact ⟨by omega, by omega⟩ | rotate_left) | (with_reducible apply i_tuple) | (with_reducible apply i_tupleT) | (with_reducible apply i_sum) | (with_reducible apply i_sumT) | (with_reducible apply i_any) | (with_reducible apply i_repr0)) | ((with_reducible apply gkL); first | (with_reducible apply p_Cons) | ((with_reducible apply p_cons); exact rfl) | (with_reducible apply p_nil) | (with_reducible apply e_Self) | ((with_reducible apply e_self); exact rfl; decide +kernel) | (with_reducible apply e_Self1) | ((with_reducible apply e_self1); exact rfl) | (with_reducible apply e_PairO) | ((with_reducible apply e_pairO); exact rfl; exact rfl) | (with_reducible apply e_Cls) | (with_reducible apply e_Snoc)) | ((with_reducible apply gkW); first | (with_reducible apply w_Seq) | ((with_reducible apply w_seq); exact rfl; exact rfl) | (with_reducible apply w_Rng1) | ((with_reducible apply w_rng1); first | decide | omega | rotate_left) | (with_reducible apply w_SeqT) | ((with_reducible apply w_seqt); exact rfl) | (with_reducible apply w_Enum) | ((with_reducible apply w_enum); exact rfl; exact rfl) | (with_reducible apply w_Rng2) | ((with_reducible apply w_rng2); first | decide | omega | rotate_left) | (with_reducible apply w_Zip) | ((with_reducible apply w_zip); exact rfl; exact rfl) | (with_reducible apply w_Rev) | ((with_reducible apply w_rvd); exact rfl; exact rfl) | (with_reducible apply w_KeysW) | (with_reducible apply w_ItemsW) | (with_reducible apply w_ValsW) | ((with_reducible apply w_kw); intro dko dkv) | (with_reducible apply w_Rng3)) | ((with_reducible apply gkX); first | ((with_reducible apply i_take); with_reducible assumption; (first | decide | omega | rotate_left); (first | decide | omega | rotate_left); intro drawn bag hdrawn0 hdrawn1 hbag) | ((with_reducible apply i_bag); intro bag hbag) | ((with_reducible apply i_endof); (first | decide | with_reducible assumption | omega | (simp only [List.length_map, List.length_append, List.length_cons, List.length_nil] at *; omega) | rotate_left); (first | decide | with_reducible assumption | omega | (simp only [List.length_map, List.length_append, List.length_cons, List.length_nil] at *; omega) | rotate_left)) | ((with_reducible apply i_standing); (first | decide | with_reducible assumption | omega | (simp only [List.length_map, List.length_append, List.length_cons, List.length_nil] at *; omega) | rotate_left)) | ((with_reducible apply i_sched); (first | decide | with_reducible assumption | omega | (simp only [List.length_map, List.length_append, List.length_cons, List.length_nil] at *; omega) | rotate_left); (first | decide | with_reducible assumption | omega | (simp only [List.length_map, List.length_append, List.length_cons, List.length_nil] at *; omega) | rotate_left); (first | decide | with_reducible assumption | omega | (simp only [List.length_map, List.length_append, List.length_cons, List.length_nil] at *; omega) | rotate_left); (first | decide | with_reducible assumption | omega | (simp only [List.length_map, List.length_append, List.length_cons, List.length_nil] at *; omega) | rotate_left); (first | decide | with_reducible assumption | omega | (simp only [List.length_map, List.length_append, List.length_cons, List.length_nil] at *; omega) | rotate_left); intro gaps bag hgapsl hgaps hbag) | ((with_reducible apply i_ranks); (first | decide | with_reducible assumption | omega | (simp only [List.length_map, List.length_append, List.length_cons, List.length_nil] at *; omega) | rotate_left); (first | decide | with_reducible assumption | omega | (simp only [List.length_map, List.length_append, List.length_cons, List.length_nil] at *; omega) | rotate_left); (first | decide | with_reducible assumption | omega | (simp only [List.length_map, List.length_append, List.length_cons, List.length_nil] at *; omega) | rotate_left); intro ranks bag hranksl hranksb hbag) | ((with_reducible apply i_some); (first | decide | with_reducible assumption | omega | (simp only [List.length_map, List.length_append, List.length_cons, List.length_nil] at *; omega) | rotate_left); (first | decide | with_reducible assumption | omega | (simp only [List.length_map, List.length_append, List.length_cons, List.length_nil] at *; omega) | rotate_left); (first | decide | with_reducible assumption | omega | (simp only [List.length_map, List.length_append, List.length_cons, List.length_nil] at *; omega) | rotate_left); intro size bag hsize0 hsize1 hbag)) | ((with_reducible apply g_set); exact rfl; (first | (simp only [wipeD, List.set_cons_zero, List.set_cons_succ]; exact rfl) | exact rfl)) | ((with_reducible apply i_stN); (first | omega | (simp only [List.length_set]; omega))) | ((with_reducible apply i_stP); omega; (first | omega | (simp only [List.length_set]; omega))) | ((with_reducible apply i_st); first | exact ixN_0 | exact ixN_1 | exact ixN_2 | exact ixN_3 | exact ixN_pos (by omega) (by omega)) | ((with_reducible apply e_tup); exact rfl; first | decide | (simp only [List.length_cons, List.length_nil]; omega) | rotate_left) | ((with_reducible apply e_st); exact rfl; (first | (simp only [wipeD, List.set_cons_zero, List.set_cons_succ]; exact rfl) | exact rfl)) | ((with_reducible apply i_appendI); first | omega | (simp only [List.length_append, List.length_cons, List.length_nil] at *; omega) | rotate_left) | ((with_reducible apply i_append); first | decide | omega | (simp only [List.length_map, List.length_append, List.length_cons, List.length_nil] at *; omega) | rotate_left) | ((with_reducible apply s_par3); exact rfl) | ((with_reducible apply c_ik); exact rfl; (first | omega | (simp only [List.length_append, List.length_cons, List.length_nil, List.length_map] at *; omega) | rotate_left); (first | (simp only [restD, List.set_cons_zero, List.set_cons_succ, List.getElem?_cons_zero, List.getElem?_cons_succ, Option.getD_some]; exact rfl) | exact rfl)) | (with_reducible apply e_Rg1) | (with_reducible apply e_rg1) | ((with_reducible apply e_op1); exact rfl) | ((with_reducible apply e_make); exact rfl; (first | exact rfl | decide); exact rfl) | ((with_reducible apply e_mak); exact rfl; (first | (simp only [wipeD, List.set_cons_zero, List.set_cons_succ]; exact rfl) | exact rfl)) | (with_reducible apply e_or) | (with_reducible apply e_not) | (with_reducible apply i_sl1) | (with_reducible apply i_slL) | (with_reducible apply i_slC) | (with_reducible apply e_noP) | (with_reducible apply e_Part) | (with_reducible apply e_part) | ((with_reducible apply e_sl); exact rfl) | ((with_reducible apply s_a3); exact rfl; (first | exact ixN_0 | exact ixN_1 | exact ixN_2 | exact ixN_3 | exact ixN_pos (by omega) (by omega)); exact rfl; (first | (simp only [wipeD, List.set_cons_zero, List.set_cons_succ]; exact rfl) | exact rfl)) | (with_reducible apply e_and) | (with_reducible apply i_reverse) | (with_reducible apply i_clear) | (with_reducible apply e_orv) | (with_reducible apply e_Rg2) | (with_reducible apply e_rg2) | ((with_reducible apply s_av); (first | exact rfl | assumption); (first | (simp only [wipeD, List.set_cons_zero, List.set_cons_succ]; exact rfl) | exact rfl)) | (with_reducible apply rpk_in) | ((with_reducible apply lnk_in); (first | omega | rotate_left); (first | omega | rotate_left)) | (with_reducible apply e_jsN) | (with_reducible apply e_Js) | ((with_reducible apply e_js); rotate_left) | ((with_reducible apply i_popI); omega; omega; omega) | ((with_reducible apply i_insert0); first | decide | omega | rotate_left) | (with_reducible apply e_eqkI) | (with_reducible apply e_eqkF) | (with_reducible apply e_eqkT) | (with_reducible apply e_eqk) | ((with_reducible apply e_bor); exact rfl) | ((with_reducible apply s_scr); exact rfl; (simp only [List.length_cons, List.length_nil]; omega); (first | exact rfl | (simp only [freeE, Bool.and_eq_true, Bool.and_true]; (repeat' constructor) <;> first | rfl | assumption)); decide; (first | (simp only [killE]; exact rfl) | exact rfl); (first | (simp only [boxE, boxS, List.set_cons_zero, List.set_cons_succ]; exact rfl) | exact rfl); rotate_left) | ((with_reducible apply b_nx); exact rfl) | ((with_reducible apply b_rt); exact rfl; exact rfl) | ((with_reducible apply e_callX); exact rfl; (first | exact rfl | decide); exact rfl) | ((with_reducible apply e_xt); exact rfl; (first | (simp only [wipeD, List.set_cons_zero, List.set_cons_succ]; exact rfl) | exact rfl)) | ((with_reducible apply s_raise); exact rfl; exact rfl; (simp only [List.length_cons, List.length_nil]; omega); exact rfl; exact rfl) | ((with_reducible apply d_x); exact rfl) | ((with_reducible apply x_T); (first | exact rfl | decide +kernel); exact rfl; intro xa xG hxG; simp only [List.set_cons_zero, List.set_cons_succ] at hxG; subst hxG) | ((with_reducible apply x_F); (first | exact rfl | decide +kernel)) | ((with_reducible apply y_T); (first | exact rfl | decide +kernel); intro xa) | ((with_reducible apply y_F); (first | exact rfl | decide +kernel)) | ((with_reducible apply u_nk); exact rfl; (first | (simp only [wipeD, List.set_cons_zero, List.set_cons_succ]; exact rfl) | exact rfl)) | ((with_reducible apply w_down); first | omega | rotate_left) | ((with_reducible apply s_npk); (first | exact rfl | (simp only [boxE, boxS])); (first | (simp only [killE]; exact rfl) | exact rfl); (first | (simp only [List.set_cons_zero, List.set_cons_succ]; exact rfl) | exact rfl); first | decide | omega | (simp only [List.length_map, List.length_append, List.length_cons, List.length_nil] at *; omega) | rotate_left) | ((with_reducible apply s_npkV); (first | exact rfl | (simp only [boxE, boxS])); (first | (simp only [killE]; exact rfl) | exact rfl); (first | (simp only [List.set_cons_zero, List.set_cons_succ]; exact rfl) | exact rfl)) | (with_reducible apply s_npv) | ((with_reducible apply s_npw); (first | exact rfl | decide | (refine decide_eq_false ?_; omega) | rotate_left); exact rfl) | (with_reducible apply s_npn) | ((with_reducible apply s_kill); exact rfl) | ((with_reducible apply s_klk); exact rfl) | ((with_reducible apply s_npe); exact rfl) | ((with_reducible apply s_rnpF); exact rfl) | ((with_reducible apply s_rnpP); exact rfl; exact rfl; (first | (simp only [wipeD, List.set_cons_zero, List.set_cons_succ]; exact rfl) | exact rfl)) | ((with_reducible apply gkP); first | (with_reducible refine e_dif (fun hcond => ?_) (fun hcond => ?_)) | (with_reducible refine e_nif (fun hcond => ?_) (fun hcond => ?_)) | (with_reducible refine e_ite (fun hcond => ?_) (fun hcond => ?_)))))
local macro_rules | `(tactic| lcg_src) => `(tactic| (rw [endsD_mk]; simp only [startD, env0, sl0, List.length_cons, List.length_nil, Nat.reduceAdd, Nat.reduceSub, List.replicate, List.cons_append, List.nil_append]))
def send_of : DSp := fun ds Q _ => ∃ (o : List Int) (x : Int), ds = [.tup (o.map D.int), .int x] ∧ 0 < o.length ∧ o.length ≤ 1000 ∧ Q false (.int (endAt o x)) []
theorem i_endof {o : List Int} {x : Int} {Q : Bool → D → List D → Prop} {E : EdT} (h1 : 0 < o.length) (h2 : o.length ≤ 1000) (h : Q false (.int (endAt o x)) []) : send_of [.tup (o.map D.int), .int x] Q E := ⟨o, x, rfl, h1, h2, h⟩
/-- on the endless line a copy passes those that begin farther on -/
def passE (t : List Int) (g : Nat) : Bool := decide (ig t (g : Int) ≤ ig t (nxP t.length g : Nat) + shP t.length g)
theorem endAt_next {t : List Int} {g : Nat} (h2 : 2 ≤ t.length) (hg : g < t.length) : endAt t ((g : Int) + 1) = ig t (nxP t.length g : Nat) + shP t.length g := by
  unfold endAt nxP shP
  by_cases h : g + 1 < t.length
  · rw [if_pos h, if_pos h, Int.emod_eq_of_lt (by omega) (by omega), Int.ediv_eq_zero_of_lt (by omega) (by omega)]
    have : (g : Int) + 1 = ((g + 1 : Nat) : Int) := by omega
    rw [this]; omega
  · have e : (g : Int) + 1 = 1 * t.length := by omega
    rw [if_neg h, if_neg h, e, Int.mul_emod_left, Int.mul_ediv_cancel _ (by omega), Int.one_mul]
    rfl
theorem nxP_mod {n g : Nat} (hg : g < n) : ((g : Int) + 1) % n = (nxP n g : Nat) := by
  unfold nxP
  by_cases h : g + 1 < n
  · rw [if_pos h, Int.emod_eq_of_lt (by omega) (by omega)]; omega
  · rw [if_neg h, show (g : Int) + 1 = 1 * n by omega, Int.mul_emod_left]; rfl
/-- the line at a, its list at q -/
def LineAt (C : Addr) (H : Hp) (a dx q : Addr) (t : List Int) : Prop := H a = some (.ins C dx [("there", .ref q)]) ∧ H q = some (.lst (t.map V.int)) ∧ a ≠ q
theorem LineAt.grow {C : Addr} {H H' : Hp} {a dx q : Addr} {t : List Int} (L : LineAt C H a dx q t) (h : ∀ a o, H a = some o → H' a = some o) : LineAt C H' a dx q t := ⟨h _ _ L.1, h _ _ L.2.1, L.2.2⟩
theorem qT {b : Bool} {x y : Prop} (h : b = true) (q : x) : if b = true then x else y := by rw [if_pos h]; exact q
theorem qF {b : Bool} {x y : Prop} (h : b = false) (q : y) : if b = true then x else y := by rw [if_neg (by rw [h]; exact Bool.false_ne_true)]; exact q
/-- two neighbours exchanged, on the unrolled places -/
def sig (n g : Nat) (p : Int) : Int := if p % (n : Int) = g then p + 1 else if p % (n : Int) = (nxP n g : Nat) then p - 1 else p
theorem nx_iff {n g : Nat} (h2 : 2 ≤ n) (hg : g < n) (p : Int) : (p + 1) % (n : Int) = (nxP n g : Nat) ↔ p % (n : Int) = g := by
  obtain ⟨i, hi, ei, exx⟩ := unroll n (by omega) p
  have e : (p + 1) % (n : Int) = (nxP n i : Nat) := by
    rw [exx, show (i : Int) + p / n * n + 1 = (i + 1) + p / n * n by omega, Int.add_mul_emod_self_right, nxP_mod hi]
  rw [e, ei]
  constructor
  · intro h
    have h : nxP n i = nxP n g := by omega
    unfold nxP at h
    split at h <;> split at h <;> omega
  · intro h
    have h : i = g := by omega
    rw [h]
theorem sig_lt {n g : Nat} (h2 : 2 ≤ n) (hg : g < n) {p q : Int} (h : p < q) (hn : ¬ (p % (n : Int) = g ∧ q = p + 1)) : sig n g p < sig n g q := by
  have a := nx_iff h2 hg p
  have b := nx_iff h2 hg (q - 1)
  rw [show q - 1 + 1 = q by omega] at b
  have hne := nxP_ne h2 hg
  unfold sig
  by_cases c1 : p % (n : Int) = g
  · rw [if_pos c1]
    by_cases c2 : q % (n : Int) = g
    · rw [if_pos c2]; omega
    · rw [if_neg c2]
      by_cases c3 : q % (n : Int) = (nxP n g : Nat)
      · rw [if_pos c3]
        have : q ≠ p + 2 := fun z => by
          have h1 := a.mpr c1
          have h2' := b.mp c3
          rw [z, show p + 2 - 1 = p + 1 by omega, h1] at h2'
          omega
        omega
      · rw [if_neg c3]; omega
  · rw [if_neg c1]
    have e1 : (if p % (n : Int) = (nxP n g : Nat) then p - 1 else p) ≤ p := by split <;> omega
    by_cases c2 : q % (n : Int) = g
    · rw [if_pos c2]; omega
    · rw [if_neg c2]
      by_cases c3 : q % (n : Int) = (nxP n g : Nat)
      · rw [if_pos c3]
        have : q ≠ p + 1 := fun z => c1 (by have := b.mp c3; rw [z, show p + 1 - 1 = p by omega] at this; exact this)
        omega
      · rw [if_neg c3]; omega
theorem endAt_swap {n : Nat} {t : List Int} (hl : t.length = n) (h2 : 2 ≤ n) {g : Nat} (hg : g < n) (p : Int) : endAt (swapT t g) p = endAt t (sig n g p) := by
  obtain ⟨i, hi, ei, exx⟩ := unroll n (by omega) p
  have hne := nxP_ne h2 hg
  have e0 : endAt (swapT t g) p = ig (swapT t g) (i : Int) + p / n * n := by unfold endAt; rw [swapT_len, hl, ei]
  rw [e0, swapT_at hl hg]
  have at_ : ∀ (j : Nat) (k : Int), j < n → endAt t ((j : Int) + k * n) = ig t (j : Int) + k * n := fun j k hj => by
    have := endAt_lap t (j : Int) k (by omega)
    rw [hl] at this
    rw [this, endAt_nat (by omega)]
  unfold sig
  rw [ei]
  by_cases c1 : nxP n g = i
  · rw [if_pos c1, if_neg (by omega), if_pos (by omega)]
    by_cases c : g + 1 < n
    · have en : nxP n g = g + 1 := by unfold nxP; rw [if_pos c]
      have es : shP n g = 0 := by unfold shP; rw [if_pos c]
      rw [es, show p - 1 = (g : Int) + p / n * n by omega, at_ g _ hg]; omega
    · have en : nxP n g = 0 := by unfold nxP; rw [if_neg c]
      have es : shP n g = n := by unfold shP; rw [if_neg c]
      rw [es, show p - 1 = (g : Int) + (p / n - 1) * n by rw [Int.sub_mul]; omega, at_ g _ hg, Int.sub_mul]; omega
  · rw [if_neg c1]
    by_cases c2 : g = i
    · rw [if_pos c2, if_pos (by omega)]
      by_cases c : g + 1 < n
      · have en : nxP n g = g + 1 := by unfold nxP; rw [if_pos c]
        have es : shP n g = 0 := by unfold shP; rw [if_pos c]
        rw [es, en, show p + 1 = ((g + 1 : Nat) : Int) + p / n * n by omega, at_ (g + 1) _ c]; omega
      · have en : nxP n g = 0 := by unfold nxP; rw [if_neg c]
        have es : shP n g = n := by unfold shP; rw [if_neg c]
        rw [es, en, show p + 1 = ((0 : Nat) : Int) + (p / n + 1) * n by rw [Int.add_mul]; omega, at_ 0 _ (by omega), Int.add_mul]; omega
    · rw [if_neg c2, if_neg (by omega), if_neg (by omega)]
      have := at_ i (p / n) hi
      rw [← exx] at this
      exact this.symm
/-- the persons at the places, and what remains of the outcome -/
structure PlanAt (n : Nat) (o ok t : List Int) : Prop where
  outK : Out n ok
  outT : Out n t
  rel : ∀ p : Int, endAt ok p = endAt o (endAt t p)
  pas : ∀ p q : Int, p < q → endAt t q < endAt t p → endAt ok p < endAt ok q
theorem endAt_iota {n : Nat} (h : 0 < n) (p : Int) : endAt (iota n) p = p := by
  obtain ⟨i, hi, ei, exx⟩ := unroll n h p
  unfold endAt
  rw [iota_len, ei, ig_iota hi]
  exact exx.symm
theorem PlanAt.start {n : Nat} {o : List Int} (O : Out n o) (h : 0 < n) : PlanAt n o o (iota n) := ⟨O, out_iota n, fun p => by rw [endAt_iota h], fun p q hpq hlt => by rw [endAt_iota h, endAt_iota h] at hlt; omega⟩
def firstG (n : Nat) (o : List Int) (g : Nat) : Prop := ig o (nxP n g : Nat) + shP n g < ig o (g : Int)
theorem PlanAt.step {n : Nat} {o ok t : List Int} (W : PlanAt n o ok t) (h2 : 2 ≤ n) {g : Nat} (hg : g < n) (hf : firstG n ok g) : PlanAt n o (swapT ok g) (swapT t g) ∧ passE t g = true := by
  have lk := W.outK.len
  have lt := W.outT.len
  have fg : endAt ok ((g : Int) + 1) < endAt ok (g : Int) := by rw [endAt_nat (by omega), endAt_next (by omega) (by omega), lk]; exact hf
  have pg : endAt t (g : Int) ≤ endAt t ((g : Int) + 1) := by
    rcases Int.lt_or_le (endAt t ((g : Int) + 1)) (endAt t (g : Int)) with h | h
    · have := W.pas g (g + 1) (by omega) h; omega
    · exact h
  refine ⟨⟨W.outK.swap h2 hg, W.outT.swap h2 hg, fun p => ?_, fun p q hpq hlt => ?_⟩, ?_⟩
  · rw [endAt_swap lk h2 hg, endAt_swap lt h2 hg]; exact W.rel _
  · rw [endAt_swap lt h2 hg, endAt_swap lt h2 hg] at hlt
    rw [endAt_swap lk h2 hg, endAt_swap lk h2 hg]
    by_cases hc : p % (n : Int) = g ∧ q = p + 1
    · obtain ⟨h1, rfl⟩ := hc
      obtain ⟨i, hi, ei, exx⟩ := unroll n (by omega) p
      have hig : i = g := by omega
      subst hig
      have hne := nxP_ne h2 hg
      have hx := (nx_iff h2 hg p).mpr h1
      have s1 : sig n i p = p + 1 := by unfold sig; rw [if_pos h1]
      have s2 : sig n i (p + 1) = p := by unfold sig; rw [if_neg (by omega), if_pos hx]; omega
      rw [s1, s2]
      have e1 := endAt_lap ok (i : Int) (p / n) (by omega)
      have e2 := endAt_lap ok ((i : Int) + 1) (p / n) (by omega)
      rw [lk, ← exx] at e1
      rw [lk, show (i : Int) + 1 + p / n * n = p + 1 by omega] at e2
      omega
    · exact W.pas _ _ (sig_lt h2 hg hpq hc) hlt
  · unfold passE
    rw [endAt_nat (by omega), endAt_next (by omega) (by omega)] at pg
    exact decide_eq_true pg
theorem PlanAt.done {n : Nat} {o t : List Int} (O : Out n o) (h : 0 < n) (W : PlanAt n o (iota n) t) : t = invO o := by
  have lt := W.outT.len
  refine ig_ext (by rw [lt, invO_len, O.len]) fun i hi => ?_
  have e := W.rel i
  rw [endAt_iota h] at e
  have := O.end_inv h (endAt t (i : Int))
  rw [← e, endAt_nat hi] at this
  rw [← this, endAt_nat (by rw [invO_len, O.len]; omega)]
/-- who is passed has a lower rank -/
def Pos (r o : List Int) : Prop := ∀ p q : Int, p < q → endAt o q < endAt o p → rkP r q < rkP r p
def PosT (r t : List Int) : Prop := ∀ p q : Int, p < q → endAt t q < endAt t p → rkP r (endAt t p) < rkP r (endAt t q)
theorem PosT.out {n : Nat} {r t : List Int} (O : Out n t) (h : 0 < n) (P : PosT r t) : Pos r (invO t) := fun p q hpq hlt => by
  have e : ∀ x, endAt t (endAt (invO t) x) = x := fun x => by
    have := O.inv.end_inv h x
    rw [O.inv_inv] at this
    exact this
  have := P _ _ hlt (by rw [e, e]; exact hpq)
  rw [e, e] at this
  exact this
theorem rkP_lap (r : List Int) (x k : Int) : rkP r (x + k * r.length) = rkP r x := by
  unfold rkP; rw [Int.add_mul_emod_self_right]
theorem passT_end {n : Nat} {r t : List Int} (hl : t.length = n) (h2 : 2 ≤ n) {g : Nat} (hg : g < n) : passT r t g = decide (rkP r (endAt t ((g : Int) + 1)) < rkP r (endAt t (g : Int))) := by
  unfold passT
  rw [endAt_nat (by omega), endAt_next (by omega) (by omega)]
theorem PosT.call {n : Nat} {r t : List Int} (hr : r.length = n) (hl : t.length = n) (h2 : 2 ≤ n) {g : Nat} (hg : g < n) (P : PosT r t) : PosT r (callT r t g) := by
  unfold callT
  by_cases hp : passT r t g = true
  · rw [if_pos hp]
    rw [passT_end hl h2 hg] at hp
    have hp := of_decide_eq_true hp
    intro p q hpq hlt
    rw [endAt_swap hl h2 hg, endAt_swap hl h2 hg] at hlt ⊢
    by_cases hc : p % (n : Int) = g ∧ q = p + 1
    · obtain ⟨h1, rfl⟩ := hc
      obtain ⟨i, hi, ei, exx⟩ := unroll n (by omega) p
      have hig : i = g := by omega
      subst hig
      have hx := (nx_iff h2 hg p).mpr h1
      have hne := nxP_ne h2 hg
      have s1 : sig n i p = p + 1 := by unfold sig; rw [if_pos h1]
      have s2 : sig n i (p + 1) = p := by unfold sig; rw [if_neg (by omega), if_pos hx]; omega
      rw [s1, s2]
      have e1 := endAt_lap t (i : Int) (p / n) (by omega)
      have e2 := endAt_lap t ((i : Int) + 1) (p / n) (by omega)
      rw [hl, ← exx] at e1
      rw [hl, show (i : Int) + 1 + p / n * n = p + 1 by omega] at e2
      rw [e1, e2, ← hr, rkP_lap, rkP_lap]
      exact hp
    · exact P _ _ (sig_lt h2 hg hpq hc) hlt
  · rw [if_neg hp]; exact P
/-- l lists the places that the person of a place passes -/
structure PB (o : List Int) (a : Int) (l : List Int) : Prop where
  asc : l.Pairwise (· < ·)
  mem : ∀ q, q ∈ l ↔ a < q ∧ endAt o q < endAt o a
theorem lt_nodup {l : List Int} (h : l.Pairwise (· < ·)) : l.Nodup := h.imp fun h => by omega
theorem PB.uniq {o : List Int} {a : Int} {l m : List Int} (h1 : PB o a l) (h2 : PB o a m) : l = m :=
  sorted_ints (ns := m) ((List.perm_ext_iff_of_nodup (lt_nodup h1.asc) (lt_nodup h2.asc)).mpr fun q => by rw [h1.mem, h2.mem]) (h1.asc.imp fun h => by omega) (List.Perm.refl _) (h2.asc.imp fun h => by omega)
theorem pb_sort {o : List Int} {a : Int} {l m : List Int} (hn : l.Nodup) (hm : ∀ q, q ∈ l ↔ a < q ∧ endAt o q < endAt o a) (p : m.Perm l) (s : m.Pairwise (· ≤ ·)) : PB o a m := by
  refine ⟨?_, fun q => by rw [p.mem_iff]; exact hm q⟩
  have nd : m.Nodup := p.nodup_iff.mpr hn
  exact (List.pairwise_and_iff.mpr ⟨s, nd⟩).imp fun ⟨h1, h2⟩ => by omega
/-- found so far: all that begin less than s behind, but for whole laps -/
structure Pby (n : Nat) (o : List Int) (a : Nat) (B s : Nat) (acc : List Int) : Prop where
  nd : acc.Nodup
  mem : ∀ q, q ∈ acc ↔ (a < q ∧ endAt o q < endAt o a) ∧ (q - a) % (n : Int) < s
  len : acc.length ≤ s * (2 * B)
structure Pin (n : Nat) (o : List Int) (a : Nat) (B s k : Nat) (acc : List Int) : Prop where
  nd : acc.Nodup
  mem : ∀ q, q ∈ acc ↔ ((a < q ∧ endAt o q < endAt o a) ∧ (q - a) % (n : Int) < s) ∨ ∃ j : Nat, j < k ∧ q = a + s + j * n
  low : ∀ j : Nat, j < k → endAt o (a + s + j * n) < endAt o a
  len : acc.length ≤ s * (2 * B) + k
theorem end_lap {n : Nat} {o : List Int} (O : Out n o) (h : 0 < n) (x : Int) (j : Nat) : endAt o (x + j * n) = endAt o x + j * n := by
  have := endAt_lap o x j (by rw [O.len]; exact h)
  rw [O.len] at this; exact this
theorem end_low {n B : Nat} {o : List Int} (O : Out n o) (h : 0 < n) (hb : ∀ x ∈ o, x.natAbs ≤ B) {x : Int} (hx : 0 ≤ x) : -(B : Int) ≤ endAt o x := by
  obtain ⟨i, hi, ei, exx⟩ := unroll n h x
  have m := hb (ig o (i : Int)) (ig_mem ⟨by omega, by rw [O.len]; omega⟩)
  have hd : 0 ≤ x / (n : Int) := Int.ediv_nonneg hx (by omega)
  have : 0 ≤ x / (n : Int) * n := Int.mul_nonneg hd (by omega)
  unfold endAt
  rw [O.len, ei]
  omega
theorem Pin.start {n B s a : Nat} {o acc : List Int} (W : Pby n o a B s acc) : Pin n o a B s 0 acc :=
  ⟨W.nd, fun q => by rw [W.mem]; exact ⟨fun h => .inl h, fun h => h.elim id fun ⟨j, hj, _⟩ => by omega⟩, fun j hj => by omega, by have := W.len; omega⟩
theorem mod_step {n s j : Nat} {a : Int} (hs : s < n) : (a + s + j * n - a) % (n : Int) = s := by
  rw [show a + s + j * n - a = (s : Int) + j * n by omega, Int.add_mul_emod_self_right, Int.emod_eq_of_lt (by omega) (by omega)]
theorem Pin.step {n B s k a : Nat} {o acc : List Int} (hs : s < n) (W : Pin n o a B s k acc) (hlt : endAt o (a + s + k * n) < endAt o a) : Pin n o a B s (k + 1) (acc ++ [(a : Int) + s + k * n]) := by
  have hn : (0 : Int) < n := by omega
  have fresh : (a : Int) + s + k * n ∉ acc := fun h => by
    rcases (W.mem _).mp h with ⟨_, h⟩ | ⟨j, hj, e⟩
    · rw [mod_step hs] at h; omega
    · have h2 : (k : Int) * n = j * n := by omega
      have := Int.eq_of_mul_eq_mul_right (by omega) h2
      omega
  refine ⟨?_, fun q => ?_, fun j hj => ?_, by rw [List.length_append, List.length_singleton]; have := W.len; omega⟩
  · rw [List.nodup_append]
    exact ⟨W.nd, by simp, fun x hx y hy e => fresh (by rw [List.mem_singleton.mp hy] at e; rw [← e]; exact hx)⟩
  · rw [List.mem_append, List.mem_singleton, W.mem]
    constructor
    · rintro ((h | ⟨j, hj, e⟩) | e)
      · exact .inl h
      · exact .inr ⟨j, by omega, e⟩
      · exact .inr ⟨k, by omega, e⟩
    · rintro (h | ⟨j, hj, e⟩)
      · exact .inl (.inl h)
      · by_cases hjk : j = k
        · subst hjk; exact .inr e
        · exact .inl (.inr ⟨j, by omega, e⟩)
  · by_cases hjk : j = k
    · subst hjk; exact hlt
    · exact W.low j (by omega)
theorem Pin.many {n B s k a : Nat} {o acc : List Int} (O : Out n o) (h1 : 2 ≤ n) (ha : a < n) (hb : ∀ x ∈ o, x.natAbs ≤ B) (W : Pin n o a B s k acc) : k ≤ 2 * B := by
  by_cases hk : k = 0
  · omega
  · have h := W.low (k - 1) (by omega)
    rw [end_lap O (by omega)] at h
    have l := end_low O (by omega) hb (x := (a : Int) + s) (by omega)
    have u := hb (ig o (a : Int)) (ig_mem ⟨by omega, by rw [O.len]; omega⟩)
    rw [endAt_nat (by rw [O.len]; exact ha)] at h
    have p : (((k - 1 : Nat) : Int)) * 1 ≤ ((k - 1 : Nat) : Int) * n := Int.mul_le_mul_of_nonneg_left (by omega) (by omega)
    omega
theorem Pin.done {n B s k a : Nat} {o acc : List Int} (O : Out n o) (h1 : 2 ≤ n) (ha : a < n) (hb : ∀ x ∈ o, x.natAbs ≤ B) (hs0 : 0 < s) (hs : s < n) (W : Pin n o a B s k acc) (hge : ¬ endAt o (a + s + k * n) < endAt o a) : Pby n o a B (s + 1) acc := by
  refine ⟨W.nd, fun q => ?_, by have := W.len; have := W.many O h1 ha hb; rw [Nat.add_mul]; omega⟩
  rw [W.mem]
  constructor
  · rintro (⟨h, hm⟩ | ⟨j, hj, rfl⟩)
    · exact ⟨h, by omega⟩
    · have : 0 ≤ (j : Int) * n := Int.mul_nonneg (by omega) (by omega)
      exact ⟨⟨by omega, W.low j hj⟩, by rw [mod_step hs]; omega⟩
  · rintro ⟨h, hm⟩
    by_cases hms : (q - a) % (n : Int) = s
    · refine .inr ?_
      obtain ⟨i, hi, ei, exx⟩ := unroll n (by omega) (q - a)
      have hd : 0 ≤ (q - (a : Int)) / (n : Int) := Int.ediv_nonneg (by omega) (by omega)
      obtain ⟨j, hj⟩ := Int.eq_ofNat_of_zero_le hd
      have eq : q = a + s + j * n := by rw [hj] at exx; omega
      refine ⟨j, ?_, eq⟩
      rcases Nat.lt_or_ge j k with hjk | hjk
      · exact hjk
      · exfalso
        have h2 := h.2
        rw [eq, end_lap O (by omega)] at h2
        rw [end_lap O (by omega)] at hge
        have : (k : Int) * n ≤ j * n := Int.mul_le_mul_of_nonneg_right (by omega) (by omega)
        omega
    · exact .inl ⟨h, by omega⟩
theorem Pby.zero {n B a : Nat} {o : List Int} (O : Out n o) (h1 : 2 ≤ n) : Pby n o a B 1 [] := by
  refine ⟨by simp, fun q => ?_, by simp⟩
  constructor
  · intro h; cases h
  · rintro ⟨⟨h, h2⟩, hm⟩
    exfalso
    obtain ⟨i, hi, ei, exx⟩ := unroll n (by omega) (q - a)
    have hd : 0 ≤ (q - (a : Int)) / (n : Int) := Int.ediv_nonneg (by omega) (by omega)
    obtain ⟨j, hj⟩ := Int.eq_ofNat_of_zero_le hd
    have eq : q = a + j * n := by rw [hj] at exx; omega
    rw [eq, end_lap O (by omega)] at h2
    have : 0 ≤ (j : Int) * n := Int.mul_nonneg (by omega) (by omega)
    omega
theorem Pby.all {n B a : Nat} {o acc : List Int} (h : 0 < n) (W : Pby n o a B n acc) (q : Int) : q ∈ acc ↔ a < q ∧ endAt o q < endAt o a := by
  rw [W.mem]
  exact ⟨fun h => h.1, fun h => ⟨h, Int.emod_lt_of_pos _ (by omega)⟩⟩
def prD (a : Int) (q : Int) : D := .tup [.int a, .int q]
/-- f a lists the places that the person of a place passes -/
structure PLs (n : Nat) (o : List Int) (ls : List (List Int)) : Prop where
  len : ls.length = n
  at_ : ∀ a : Nat, a < n → PB o a (ls[a]?.getD [])
def plD : Nat → List (List Int) → List D
  | _, [] => []
  | a, l :: ls => l.map (prD a) ++ plD (a + 1) ls
theorem plD_app : ∀ (ls ms : List (List Int)) (a : Nat), plD a (ls ++ ms) = plD a ls ++ plD (a + ls.length) ms
  | [], ms, a => by simp [plD]
  | l :: ls, ms, a => by
    rw [List.cons_append, plD, plD, plD_app ls ms (a + 1), List.append_assoc, List.length_cons, show a + 1 + ls.length = a + (ls.length + 1) by omega]
theorem PLs.uniq {n : Nat} {o : List Int} {ls ms : List (List Int)} (h1 : PLs n o ls) (h2 : PLs n o ms) : ls = ms := by
  refine List.ext_getElem (by rw [h1.len, h2.len]) fun a ha hb => ?_
  have e1 := h1.at_ a (by rw [← h1.len]; exact ha)
  have e2 := h2.at_ a (by rw [← h1.len]; exact ha)
  rw [List.getElem?_eq_getElem ha] at e1
  rw [List.getElem?_eq_getElem hb] at e2
  exact e1.uniq e2
theorem plD_len {M : Nat} : ∀ (ls : List (List Int)) (a : Nat), (∀ l ∈ ls, l.length ≤ M) → (plD a ls).length ≤ ls.length * M
  | [], a, _ => by simp [plD]
  | l :: ls, a, h => by
    have h1 := h l (List.mem_cons_self ..)
    have h2 := plD_len ls (a + 1) fun x hx => h x (List.mem_cons_of_mem _ hx)
    rw [plD, List.length_append, List.length_map, List.length_cons, Nat.add_mul]; omega
def filt (o : List Int) (a : Int) (k : Nat) : List Int := ((List.range k).map fun i => a + 1 + ((i : Nat) : Int)).filter fun q => decide (endAt o q < endAt o a)
theorem filt_pb {o : List Int} {a : Int} {k : Nat} (h : ∀ q, a < q → endAt o q < endAt o a → q - a - 1 < k) : PB o a (filt o a k) := by
  refine ⟨List.Pairwise.filter _ ?_, fun q => ?_⟩
  · rw [List.pairwise_map]
    exact List.pairwise_lt_range.imp fun h => by omega
  · unfold filt
    rw [List.mem_filter, decide_eq_true_iff, List.mem_map]
    constructor
    · rintro ⟨⟨i, hi, rfl⟩, h2⟩; exact ⟨by omega, h2⟩
    · rintro ⟨h1, h2⟩
      have := h q h1 h2
      exact ⟨⟨(q - a - 1).toNat, List.mem_range.mpr (by omega), by omega⟩, h2⟩
theorem filt_len (o : List Int) (a : Int) (k : Nat) : (filt o a k).length ≤ k := by
  have := List.length_filter_le (fun q => decide (endAt o q < endAt o a)) ((List.range k).map fun i => a + 1 + ((i : Nat) : Int))
  rw [List.length_map, List.length_range] at this
  exact this
/-- how far off those can begin that are passed -/
theorem pass_far {n : Nat} {o : List Int} (O : Out n o) (h : 0 < n) {lo hi : Int} (hb : ∀ x ∈ o, lo ≤ x ∧ x ≤ hi) {a : Nat} (ha : a < n) {q : Int} (h2 : endAt o q < endAt o (a : Int)) : q < hi - lo + n := by
  obtain ⟨i, hi', ei, exx⟩ := unroll n h q
  have m := hb (ig o (i : Int)) (ig_mem ⟨by omega, by rw [O.len]; omega⟩)
  have m2 := hb (ig o (a : Int)) (ig_mem ⟨by omega, by rw [O.len]; omega⟩)
  rw [endAt_nat (by rw [O.len]; exact ha)] at h2
  unfold endAt at h2
  rw [O.len, ei] at h2
  omega
theorem PB.len {n B : Nat} {o : List Int} (O : Out n o) (h : 0 < n) (hb : ∀ x ∈ o, x.natAbs ≤ B) {a : Nat} (ha : a < n) {l : List Int} (W : PB o a l) : l.length ≤ 2 * B + n := by
  have W2 := filt_pb (o := o) (a := a) (k := 2 * B + n) fun q h1 h2 => by
    have := pass_far O h (lo := -(B : Int)) (hi := B) (fun x hx => by have := hb x hx; omega) ha h2
    omega
  rw [W.uniq W2]
  exact filt_len _ _ _
def prG (a : Int) : D → Option D
  | .int q => some (prD a q)
  | _ => none
theorem prG_all (a : Int) : ∀ l : List Int, (l.map D.int).filterMap (prG a) = l.map (prD a)
  | [] => rfl
  | q :: l => by rw [List.map_cons, List.map_cons, List.filterMap_cons_some (show prG a (.int q) = some (prD a q) from rfl), prG_all a l]
theorem PLs.mem_len {n B : Nat} {o : List Int} {ls : List (List Int)} (O : Out n o) (h : 0 < n) (hb : ∀ x ∈ o, x.natAbs ≤ B) (hl : ls.length ≤ n) (W : ∀ a : Nat, a < ls.length → PB o a (ls[a]?.getD [])) : ∀ l ∈ ls, l.length ≤ 2 * B + n := fun l hl' => by
  obtain ⟨a, ha, rfl⟩ := List.getElem_of_mem hl'
  have := W a ha
  rw [List.getElem?_eq_getElem ha] at this
  exact this.len O h hb (by omega)
def spassed_by : DSp := fun ds Q _ => ∃ (n B : Nat) (o : List Int) (a : Nat), ds = [.tup (o.map D.int), .int a] ∧ Out n o ∧ 2 ≤ n ∧ n ≤ 12 ∧ a < n ∧ (∀ x ∈ o, x.natAbs ≤ B) ∧ B ≤ 3000 ∧ ∀ l, PB o a l → Q true (iL l) []
theorem i_pby {n B : Nat} {o : List Int} {a : Nat} {Q : Bool → D → List D → Prop} {E : EdT} (O : Out n o) (h1 : 2 ≤ n) (h2 : n ≤ 12) (ha : a < n) (hb : ∀ x ∈ o, x.natAbs ≤ B) (hB : B ≤ 3000) (h : ∀ l, PB o a l → Q true (iL l) []) : spassed_by [.tup (o.map D.int), .int a] Q E := ⟨n, B, o, a, rfl, O, h1, h2, ha, hb, hB, h⟩
def spass_count : DSp := fun ds Q _ => ∃ (n : Nat) (o : List Int), ds = [.tup (o.map D.int)] ∧ o.length = n ∧ 2 ≤ n ∧ n ≤ 100 ∧ Q false (.int (pcN n o)) []
theorem i_pcount {n : Nat} {o : List Int} {Q : Bool → D → List D → Prop} {E : EdT} (h0 : o.length = n) (h1 : 2 ≤ n) (h2 : n ≤ 100) (h : Q false (.int (pcN n o)) []) : spass_count [.tup (o.map D.int)] Q E := ⟨n, o, rfl, h0, h1, h2, h⟩
def spasses (C_TooMany : Addr) : DSp := fun ds Q E => ∃ (n B : Nat) (o : List Int) (m : Int), ds = [.tup (o.map D.int), .int m] ∧ Out n o ∧ 2 ≤ n ∧ n ≤ 12 ∧ (m < (pcN n o : Int) → E "TooMany" [("limit", .int m)] []) ∧ ((pcN n o : Int) ≤ m → (∀ x ∈ o, x.natAbs ≤ B) ∧ B ≤ 3000 ∧ ∀ ls, PLs n o ls → Q true (.lst (plD 0 ls)) [])
theorem i_passesX {C_TooMany : Addr} {n B : Nat} {o : List Int} {m : Int} {Q : Bool → D → List D → Prop} {E : EdT} (O : Out n o) (h1 : 2 ≤ n) (h2 : n ≤ 12) (hx : m < (pcN n o : Int) → E "TooMany" [("limit", .int m)] []) (h : (pcN n o : Int) ≤ m → (∀ x ∈ o, x.natAbs ≤ B) ∧ B ≤ 3000 ∧ ∀ ls, PLs n o ls → Q true (.lst (plD 0 ls)) []) : spasses C_TooMany [.tup (o.map D.int), .int m] Q E := ⟨n, B, o, m, rfl, O, h1, h2, hx, h⟩
/-- a list of pairs -/
def prs (ps : List (Int × Int)) : List D := ps.map fun p => prD p.1 p.2
def plP : Nat → List (List Int) → List (Int × Int)
  | _, [] => []
  | a, l :: ls => l.map (fun q => ((a : Int), q)) ++ plP (a + 1) ls
theorem plD_prs : ∀ (ls : List (List Int)) (a : Nat), plD a ls = prs (plP a ls)
  | [], _ => rfl
  | l :: ls, a => by
    rw [plD, plP, plD_prs ls (a + 1)]
    unfold prs
    rw [List.map_append, List.map_map]
    rfl
theorem map_places {n : Nat} {t : List Int} (hl : t.length = n) (h : Int → Int) : t.map h = (List.range n).map fun p => h (ig t ((p : Nat) : Int)) := by
  refine List.ext_getElem (by rw [List.length_map, List.length_map, List.length_range, hl]) fun i h1 h2 => ?_
  rw [List.getElem_map, List.getElem_map, List.getElem_range, ig_get (by rw [List.length_map] at h1; exact h1)]
/-! levels: what a schedule does to the counts of strong persons -/
/-- the least of some -/
def IsMn {ι : Type} (F : ι → Int) (a : Int) : Prop := (∀ i, a ≤ F i) ∧ ∃ i, a = F i
theorem IsMn.uniq {ι : Type} {F : ι → Int} {a b : Int} (h1 : IsMn F a) (h2 : IsMn F b) : a = b := by
  obtain ⟨l1, i, e1⟩ := h1
  obtain ⟨l2, j, e2⟩ := h2
  have := l1 j
  have := l2 i
  omega
/-! ### a ring's levels -/
theorem perm_places {n : Nat} {t : List Int} (O : Out n t) (f : Int → Int) : ((List.range n).map fun (p : Nat) => f (ig t (p : Int) % n)).sum = ((iota n).map f).sum := by
  have h := perm_sum (O.perm.map f)
  rw [List.map_map, map_places O.len] at h
  exact h
/-! levels and the endless line -/
/-- how many begin up to b and end after e, by places -/
def cT (n : Nat) (t : List Int) (b e : Int) : Int := ((List.range n).map fun (q : Nat) => max 0 ((b - ig t (q : Int)) / (n : Int) - (e - q) / (n : Int))).sum
theorem carrO_cT {n : Nat} {t : List Int} (O : Out n t) (h0 : 0 < n) (b e : Int) : carrO (invO t) b e = cT n t b e := by
  have hl : (invO t).length = n := by rw [invO_len, O.len]
  rw [carrO_sum, hl]
  have h1 := perm_places O fun x => carr1 n b e x (ig (invO t) x)
  rw [sum_iota] at h1
  have h1 : ((List.range n).map fun (i : Nat) => carr1 n b e i (ig (invO t) (i : Int))).sum = ((List.range n).map fun (p : Nat) => carr1 n b e (ig t (p : Int) % n) (ig (invO t) (ig t (p : Int) % n))).sum := h1.symm
  rw [h1]
  unfold cT
  refine DL.sum_congr fun p hp => ?_
  rw [O.inv_at hp]
  unfold carr1
  have e1 : b - ig t (p : Int) = (b - ig t (p : Int) % n) + (-(ig t (p : Int) / n)) * n := by
    have := Int.emod_add_mul_ediv (ig t (p : Int)) n
    rw [Int.mul_comm] at this
    rw [Int.neg_mul]; omega
  have e2 : e - ((p : Int) - ig t (p : Int) / n * n) = (e - p) + (ig t (p : Int) / n) * n := by omega
  rw [e1, e2, Int.add_mul_ediv_right _ _ (by omega), Int.add_mul_ediv_right _ _ (by omega)]
  congr 1
  omega
/-! how many passes there are -/
/-! ### the list of passes is as long -/
theorem sumN_swap (f : Nat → Nat → Nat) (m : Nat) : ∀ n : Nat, sumN n (fun i => sumN m fun j => f i j) = sumN m fun j => sumN n fun i => f i j
  | 0 => by
    show 0 = sumN m fun j => 0
    rw [sumN_zero]
  | n + 1 => by
    rw [sumN_succ, sumN_swap f m n, ← sumN_add]
    exact sumN_congr fun j _ => (sumN_succ n fun i => f i j).symm
theorem sumN_cast (f : Nat → Nat) : ∀ n : Nat, ((sumN n f : Nat) : Int) = ((List.range n).map fun i => ((f i : Nat) : Int)).sum
  | 0 => rfl
  | n + 1 => by
    rw [sumN_succ, List.range_succ, List.map_append, List.sum_append, List.map_singleton, List.sum_singleton, ← sumN_cast f n]; omega
def fpN (n : Nat) (o : List Int) (a q : Nat) : Nat := ((ig o (a : Int) - 1 - ig o (q : Int)) / (n : Int) - ((a : Int) - q) / (n : Int)).toNat
theorem fp_sum {n : Nat} {o : List Int} (O : Out n o) {a q : Nat} (ha : a < n) (hq : q < n) : fpN n o a q + fpN n o q a = Fo n o a q := by
  have key : ∀ a q : Nat, a < q → q < n → fpN n o a q + fpN n o q a = ((ig o (q : Int) - ig o (a : Int)) / (n : Int)).natAbs := fun a q h hq => by
    have hd : ¬ (ig o (q : Int) - ig o (a : Int)) % (n : Int) = 0 := fun z => by
      have := O.inj a q (by omega) hq (sub_emod_zero z).symm
      omega
    have r0 := Int.emod_nonneg (ig o (q : Int) - ig o (a : Int)) (show (n : Int) ≠ 0 by omega)
    have r1 := Int.emod_lt_of_pos (ig o (q : Int) - ig o (a : Int)) (show (0 : Int) < n by omega)
    have e1 : (ig o (q : Int) - 1 - ig o (a : Int)) / (n : Int) = (ig o (q : Int) - ig o (a : Int)) / n := by
      rw [show ig o (q : Int) - 1 - ig o (a : Int) = ig o (q : Int) - ig o (a : Int) - 1 by omega]
      exact ediv_pred (by omega) hd
    have e2 : (ig o (a : Int) - 1 - ig o (q : Int)) / (n : Int) = -((ig o (q : Int) - ig o (a : Int)) / n) - 1 := by
      have hne : ¬ (ig o (a : Int) - ig o (q : Int)) % (n : Int) = 0 := fun z => hd (by
        have := sub_emod_zero z
        exact emod_sub_zero this.symm)
      rw [show ig o (a : Int) - 1 - ig o (q : Int) = ig o (a : Int) - ig o (q : Int) - 1 by omega, ediv_pred (by omega) hne, show ig o (a : Int) - ig o (q : Int) = -(ig o (q : Int) - ig o (a : Int)) by omega]
      exact neg_ediv (by omega) hd
    have e3 : ((a : Int) - q) / (n : Int) = -1 := by
      have q1 := Int.add_mul_ediv_right ((a : Int) - q + n) (-1) (show (n : Int) ≠ 0 by omega)
      rw [show (a : Int) - q + n + -1 * n = (a : Int) - q by omega, Int.ediv_eq_zero_of_lt (a := (a : Int) - q + n) (by omega) (by omega)] at q1
      exact q1
    have e4 : ((q : Int) - a) / (n : Int) = 0 := Int.ediv_eq_zero_of_lt (by omega) (by omega)
    unfold fpN
    rw [e1, e2, e3, e4]
    generalize (ig o (q : Int) - ig o (a : Int)) / (n : Int) = D
    omega
  unfold Fo
  by_cases h1 : a < q
  · rw [if_pos h1]; exact key a q h1 hq
  · rw [if_neg h1]
    by_cases h3 : q < a
    · rw [if_pos h3, Nat.add_comm]; exact key q a h3 ha
    · rw [if_neg h3]
      have : a = q := by omega
      subst this
      unfold fpN
      have e : (ig o (a : Int) - 1 - ig o (a : Int)) / (n : Int) = -1 := by
        have q1 := Int.add_mul_ediv_right (-1 + (n : Int)) (-1) (show (n : Int) ≠ 0 by omega)
        rw [show -1 + (n : Int) + -1 * n = ig o (a : Int) - 1 - ig o (a : Int) by omega, Int.ediv_eq_zero_of_lt (a := -1 + (n : Int)) (by omega) (by omega)] at q1
        exact q1
      rw [e, Int.sub_self, Int.zero_ediv]; rfl
theorem fp_total {n : Nat} {o : List Int} (O : Out n o) : sumN n (fun a => sumN n fun q => fpN n o a q) = pcN n o := by
  have h : S2 n o = sumN n (fun a => sumN n fun q => fpN n o a q) + sumN n (fun a => sumN n fun q => fpN n o q a) := by
    unfold S2
    rw [← sumN_add]
    refine sumN_congr fun a ha => ?_
    rw [← sumN_add]
    exact sumN_congr fun q hq => (fp_sum O ha hq).symm
  rw [sumN_swap (fun a q => fpN n o q a) n n, S2_pc] at h
  omega
theorem nodup_len {l m : List Int} (hl : l.Nodup) (hm : m.Nodup) (h : ∀ x, x ∈ l ↔ x ∈ m) : l.length = m.length := ((List.perm_ext_iff_of_nodup hl hm).mpr h).length_eq
theorem far_of (o : List Int) : ∃ far : Nat, ∀ i : Nat, i < o.length → (ig o (i : Int) - i).natAbs ≤ far := by
  have : ∀ k : Nat, ∃ far : Nat, ∀ i : Nat, i < k → (ig o (i : Int) - i).natAbs ≤ far := fun k => by
    induction k with
    | zero => exact ⟨0, fun i h => absurd h (by omega)⟩
    | succ k ih =>
      obtain ⟨far, h⟩ := ih
      refine ⟨max far (ig o (k : Int) - k).natAbs, fun i hi => ?_⟩
      by_cases e : i = k
      · subst e; omega
      · have := h i (by omega); omega
  exact this _
theorem PB.count {n : Nat} {o : List Int} (O : Out n o) (h2 : 2 ≤ n) {a : Nat} (ha : a < n) {l : List Int} (W : PB o a l) : l.length = sumN n fun q => fpN n o a q := by
  have hl := O.len
  have hl' : (invO o).length = n := by rw [invO_len, hl]
  obtain ⟨f1, hf1⟩ := far_of o
  obtain ⟨f2, hf2⟩ := far_of (invO o)
  obtain ⟨far, hfar⟩ : ∃ far : Nat, far = f1 + f2 + n := ⟨_, rfl⟩
  have hE := hf1 a (by omega)
  rw [← endAt_nat (by omega)] at hE
  have hc := carrO_count (o := invO o) (by omega) (far := far) (e := a) (fun i hi => by have := hf2 i hi; omega) (endAt o (a : Int) - a + far).toNat
  rw [show (a : Int) - far + (((endAt o (a : Int) - a + far).toNat : Nat) : Int) - 1 = endAt o (a : Int) - 1 by omega, carrO_cT O (by omega)] at hc
  have hm : l.length = ((((List.range (endAt o (a : Int) - a + far).toNat).map fun i => (a : Int) - far + (i : Nat)).filter fun x => decide ((a : Int) < endAt (invO o) x))).length := by
    rw [← List.length_map (as := l) (f := endAt o)]
    refine nodup_len ?_ ?_ fun x => ?_
    · rw [List.nodup_iff_pairwise_ne, List.pairwise_map]
      exact (lt_nodup W.asc).imp fun hne e => hne (O.endAt_inj (by omega) e)
    · rw [List.nodup_iff_pairwise_ne]
      refine List.Pairwise.filter _ ?_
      rw [List.pairwise_map]
      exact (List.pairwise_lt_range).imp fun h e => by omega
    · rw [List.mem_map, List.mem_filter, List.mem_map, decide_eq_true_iff]
      constructor
      · rintro ⟨q, hq, rfl⟩
        obtain ⟨q1, q2⟩ := (W.mem q).mp hq
        rw [O.end_inv (by omega)]
        refine ⟨⟨(endAt o q - a + far).toNat, List.mem_range.mpr ?_, ?_⟩, q1⟩
        · omega
        · have : q - far ≤ endAt o q := by
            obtain ⟨i, hi, ei, ex⟩ := unroll n (by omega) q
            have h3 := hf1 i (by omega)
            unfold endAt
            rw [hl, ei]
            omega
          omega
      · rintro ⟨⟨i, hi, rfl⟩, hx⟩
        have hi := List.mem_range.mp hi
        generalize hxx : (a : Int) - far + (i : Nat) = x at hx
        have hinv : endAt o (endAt (invO o) x) = x := by
          have := O.inv.end_inv (by omega) x
          rw [O.inv_inv] at this
          exact this
        exact ⟨endAt (invO o) x, (W.mem _).mpr ⟨hx, by rw [hinv]; omega⟩, hinv⟩
  have e : ((l.length : Nat) : Int) = ((sumN n fun q => fpN n o a q : Nat) : Int) := by
    rw [hm, hc, sumN_cast]
    unfold cT fpN
    refine DL.sum_congr fun q hq => ?_
    rw [endAt_nat (by omega)]
    omega
  omega
theorem plP_len : ∀ (ls : List (List Int)) (k : Nat), (plP k ls).length = sumN ls.length fun a => (ls[a]?.getD []).length
  | [], _ => rfl
  | l :: ls, k => by
    rw [plP, List.length_append, List.length_map, plP_len ls (k + 1), List.length_cons]
    have e : sumN (ls.length + 1) (fun a => ((l :: ls)[a]?.getD []).length) = l.length + sumN ls.length fun a => (ls[a]?.getD []).length := by
      unfold sumN
      rw [List.range_succ_eq_map, List.map_cons, List.sum_cons, List.map_map]
      rfl
    rw [e]
theorem PLs.count {n : Nat} {o : List Int} {ls : List (List Int)} (O : Out n o) (h2 : 2 ≤ n) (W : PLs n o ls) : (plP 0 ls).length = pcN n o := by
  rw [plP_len, W.len, ← fp_total O]
  exact sumN_congr fun a ha => PB.count O h2 ha (W.at_ a ha)
def slaw_listed (C_RingError C_TooMany : Addr) : DSp := fun ds Q _ => ∃ (n B : Nat) (o : List Int) (m : Int), ds = [.tup (o.map D.int), .int m] ∧ Out n o ∧ 2 ≤ n ∧ n ≤ 12 ∧ (m < (pcN n o : Int) → Q false (.tup [.str "many", .int m]) []) ∧ ((pcN n o : Int) ≤ m → (∀ x ∈ o, x.natAbs ≤ B) ∧ B ≤ 3000 ∧ ∀ ls, PLs n o ls → Q true (.tup [.str "told", .lst (plD 0 ls)]) [])
theorem i_llisted {C_RingError C_TooMany : Addr} {n B : Nat} {o : List Int} {m : Int} {Q : Bool → D → List D → Prop} {E : EdT} (O : Out n o) (h1 : 2 ≤ n) (h2 : n ≤ 12) (hx : m < (pcN n o : Int) → Q false (.tup [.str "many", .int m]) []) (h : (pcN n o : Int) ≤ m → (∀ x ∈ o, x.natAbs ≤ B) ∧ B ≤ 3000 ∧ ∀ ls, PLs n o ls → Q true (.tup [.str "told", .lst (plD 0 ls)]) []) : slaw_listed C_RingError C_TooMany [.tup (o.map D.int), .int m] Q E := ⟨n, B, o, m, rfl, O, h1, h2, hx, h⟩
/-- equal data are alike -/
def slaw_alike : DSp := fun ds Q _ => ∃ a b : D, ds = [a, b] ∧ a = b ∧ NiceD a ∧ Q false (.bl true) []
theorem filt_succ (o : List Int) (a : Int) (k : Nat) : filt o a (k + 1) = filt o a k ++ (if endAt o (a + 1 + k) < endAt o a then [a + 1 + (k : Int)] else []) := by
  unfold filt
  rw [List.range_succ, List.map_append, List.filter_append, List.map_singleton, List.filter_cons, List.filter_nil]
  by_cases h : endAt o (a + 1 + k) < endAt o a
  · rw [decide_eq_true h, if_pos h]; rfl
  · rw [decide_eq_false h, if_neg h]; rfl
def slaw_passes : DSp := fun ds Q _ => ∃ (n B : Nat) (o : List Int), ds = [.tup (o.map D.int)] ∧ Out n o ∧ 2 ≤ n ∧ n ≤ 12 ∧ (∀ x ∈ o, x.natAbs ≤ B) ∧ B ≤ 3000 ∧ ∀ ls, PLs n o ls → Q true (.lst (plD 0 ls)) []
theorem i_lpasses {n B : Nat} {o : List Int} {Q : Bool → D → List D → Prop} {E : EdT} (O : Out n o) (h1 : 2 ≤ n) (h2 : n ≤ 12) (hb : ∀ x ∈ o, x.natAbs ≤ B) (hB : B ≤ 3000) (h : ∀ ls, PLs n o ls → Q true (.lst (plD 0 ls)) []) : slaw_passes [.tup (o.map D.int)] Q E := ⟨n, B, o, rfl, O, h1, h2, hb, hB, h⟩
def slaw_counted : DSp := fun ds Q _ => ∃ (n : Nat) (o : List Int), ds = [.tup (o.map D.int)] ∧ Out n o ∧ 2 ≤ n ∧ n ≤ 100 ∧ Q false (.int (pcN n o)) []
theorem i_lcounted {n : Nat} {o : List Int} {Q : Bool → D → List D → Prop} {E : EdT} (O : Out n o) (h1 : 2 ≤ n) (h2 : n ≤ 100) (h : Q false (.int (pcN n o)) []) : slaw_counted [.tup (o.map D.int)] Q E := ⟨n, o, rfl, O, h1, h2, h⟩
theorem fl_neg {n : Nat} (h0 : 0 < n) {a b : Int} (h : ¬ a % (n : Int) = b % (n : Int)) : 0 - ((a - b) / (n : Int) + 1) = (b - a) / (n : Int) := by
  have d1 := Int.emod_add_mul_ediv (a - b) (n : Int)
  have d2 := Int.emod_add_mul_ediv (b - a) (n : Int)
  have m1 := Int.emod_nonneg (a - b) (show (n : Int) ≠ 0 by omega)
  have m2 := Int.emod_lt_of_pos (a - b) (show (0 : Int) < n by omega)
  have m3 := Int.emod_nonneg (b - a) (show (n : Int) ≠ 0 by omega)
  have m4 := Int.emod_lt_of_pos (b - a) (show (0 : Int) < n by omega)
  have nz : (a - b) % (n : Int) ≠ 0 := fun z => h (Int.emod_emod_of_dvd a (Int.dvd_refl _) ▸ by
    have := Int.emod_eq_emod_iff_emod_sub_eq_zero.mpr z
    simpa using this)
  have s : (n : Int) * ((a - b) / n + (b - a) / n) = -((a - b) % n + (b - a) % n) := by rw [Int.mul_add]; omega
  have q1 : (a - b) / (n : Int) + (b - a) / n < 0 := by
    refine Int.not_le.mp fun z => ?_
    have := Int.mul_nonneg (show (0 : Int) ≤ n by omega) z
    omega
  have q2 : -2 < (a - b) / (n : Int) + (b - a) / n := by
    refine Int.not_le.mp fun z => ?_
    have := Int.mul_le_mul_of_nonneg_left z (show (0 : Int) ≤ n by omega)
    omega
  omega
def slaw_right (C_RingError C_TooMany : Addr) : DSp := fun ds Q _ => ∃ (n B : Nat) (o : List Int) (few : Bool), ds = [.tup (o.map D.int), .bl few] ∧ Out n o ∧ 2 ≤ n ∧ n ≤ 12 ∧ (∀ x ∈ o, x.natAbs < 2 ^ 140) ∧ (few = true → (∀ x ∈ o, x.natAbs ≤ B) ∧ B ≤ 3000) ∧ Q false (.bl true) []
theorem i_right {C_RingError C_TooMany : Addr} {n B : Nat} {o : List Int} {few : Bool} {Q : Bool → D → List D → Prop} {E : EdT} (O : Out n o) (h1 : 2 ≤ n) (h2 : n ≤ 12) (ho : ∀ x ∈ o, x.natAbs < 2 ^ 140) (hf : few = true → (∀ x ∈ o, x.natAbs ≤ B) ∧ B ≤ 3000) (h : Q false (.bl true) []) : slaw_right C_RingError C_TooMany [.tup (o.map D.int), .bl few] Q E := ⟨n, B, o, few, rfl, O, h1, h2, ho, hf, h⟩
theorem pc_abs {n : Nat} {o : List Int} (O : Out n o) (h12 : n ≤ 12) (ho : ∀ x ∈ o, x.natAbs < 2 ^ 140) : pcN n o < 2 ^ 200 := by
  have le : ∀ (k : Nat) (f : Nat → Nat) (b : Nat), (∀ i, i < k → f i ≤ b) → sumN k f ≤ k * b := fun k f b h => by
    induction k with
    | zero => simp [sumN]
    | succ k ih =>
      rw [sumN_succ, Nat.succ_mul]
      have := ih fun i hi => h i (by omega)
      have := h k (by omega)
      omega
  have l1 : pcN n o ≤ n * (n * 2 ^ 142) := by
    unfold pcN
    refine le n _ _ fun j hj => Nat.le_trans (le j _ (2 ^ 142) fun i hi => ?_) (Nat.mul_le_mul_right _ (by omega))
    have a := ho (ig o (j : Int)) (ig_mem (by rw [O.len]; omega))
    have c := ho (ig o (i : Int)) (ig_mem (by rw [O.len]; omega))
    have d1 := Int.emod_add_mul_ediv (ig o (j : Int) - ig o (i : Int)) (n : Int)
    have hd : ((ig o (j : Int) - ig o (i : Int)) / (n : Int)).natAbs ≤ (ig o (j : Int) - ig o (i : Int)).natAbs + 1 := by
      have q1 : (ig o (j : Int) - ig o (i : Int)) / (n : Int) ≤ ((ig o (j : Int) - ig o (i : Int)).natAbs : Int) := Int.le_trans (Int.ediv_le_ediv (by omega) (Int.le_natAbs)) (Int.ediv_le_self _ (by omega))
      have q2 : -((ig o (j : Int) - ig o (i : Int)).natAbs : Int) - 1 ≤ (ig o (j : Int) - ig o (i : Int)) / (n : Int) := by
        refine (Int.le_ediv_iff_mul_le (by omega)).mpr ?_
        have : (-((ig o (j : Int) - ig o (i : Int)).natAbs : Int) - 1) * n ≤ (-((ig o (j : Int) - ig o (i : Int)).natAbs : Int) - 1) * 1 := Int.mul_le_mul_of_nonpos_left (by omega) (by omega)
        omega
      omega
    have : (2 : Nat) ^ 142 = 2 ^ 140 * 4 := by decide
    omega
  have l2 : n * (n * 2 ^ 142) ≤ 12 * (12 * 2 ^ 142) := Nat.mul_le_mul h12 (Nat.mul_le_mul_right _ h12)
  exact Nat.lt_of_le_of_lt (Nat.le_trans l1 l2) (by decide)
theorem ni_pls {n B : Nat} {o : List Int} {ls : List (List Int)} (O : Out n o) (h2 : 2 ≤ n) (h12 : n ≤ 12) (hb : ∀ x ∈ o, x.natAbs ≤ B) (hB : B ≤ 3000) (W : PLs n o ls) (hl : pcN n o ≤ 1000) : Ni 2 (1000 * (2 * 259 + 6) + 4) (.lst (plD 0 ls)) := by
  have hc := W.count O h2
  have hml := PLs.mem_len O (by omega) hb (by rw [W.len]; omega) fun a ha => W.at_ a (by rw [W.len] at ha; exact ha)
  have hbd : ∀ p ∈ plP 0 ls, p.1.natAbs ≤ 10 ^ 6 ∧ p.2.natAbs ≤ 10 ^ 6 := by
    have key : ∀ (ms : List (List Int)) (a : Nat), (∀ i, i < ms.length → a + i < n ∧ PB o ((a + i : Nat) : Int) (ms[i]?.getD [])) → ∀ p ∈ plP a ms, p.1.natAbs ≤ 10 ^ 6 ∧ p.2.natAbs ≤ 10 ^ 6 := fun ms => by
      induction ms with
      | nil => intro a _ p hp; cases hp
      | cons l ms ih =>
        intro a h p hp
        rw [plP] at hp
        rcases List.mem_append.mp hp with hp | hp
        · obtain ⟨q, hq, rfl⟩ := List.mem_map.mp hp
          obtain ⟨h1, h3⟩ := h 0 (by rw [List.length_cons]; omega)
          have hq : q ∈ ((l :: ms)[0]?.getD []) := hq
          have hm := (h3.mem q).mp hq
          rw [Nat.add_zero] at h1 hm
          have hf := pass_far O (by omega) (lo := -(B : Int)) (hi := B) (fun x hx => by have := hb x hx; omega) h1 hm.2
          dsimp only
          omega
        · refine ih (a + 1) (fun i hi => ?_) p hp
          have := h (i + 1) (by rw [List.length_cons]; omega)
          rw [show a + 1 + i = a + (i + 1) by omega]
          exact ⟨this.1, this.2⟩
    refine key ls 0 fun i hi => ?_
    rw [Nat.zero_add]
    rw [W.len] at hi
    exact ⟨hi, W.at_ i hi⟩
  rw [plD_prs]
  have c := Ni.lst (Nis.all (k := 1) (w := 2 * 259 + 4) (ds := prs (plP 0 ls)) fun d hd => by
    obtain ⟨p, hp, rfl⟩ := List.mem_map.mp hd
    have := hbd p hp
    exact Ni.tints (l := [p.1, p.2]) (fun x hx => by
      simp only [List.mem_cons, List.not_mem_nil, or_false] at hx
      refine Nat.lt_of_le_of_lt (show x.natAbs ≤ 10 ^ 6 from ?_) (by decide)
      rcases hx with rfl | rfl <;> omega) (m := 2) (by simp))
  have hlen : (prs (plP 0 ls)).length ≤ 1000 := by unfold prs; rw [List.length_map, hc]; exact hl
  exact ⟨c.nice, c.deep, Nat.le_trans c.wt (by omega)⟩
theorem nice_many {b : Int} (h : b.natAbs ≤ 2000) : NiceD (.tup [.str (Str.ofString "many"), .int b]) :=
  (Ni.tup (Nis.cons (Ni.str (x := Str.ofString "many") (m := 10) (strOk_of _) (by decide)) (Nis.cons (Ni.int (Nat.lt_of_le_of_lt h (by decide))) Nis.nil))).done (by decide) (by decide)
theorem none_all : ∀ l : List D, l.filterMap (fun _ => (none : Option D)) = []
  | [] => rfl
  | _ :: l => none_all l
theorem plD_cnt {n : Nat} {o : List Int} {ls : List (List Int)} (O : Out n o) (h2 : 2 ≤ n) (W : PLs n o ls) : (plD 0 ls).length = pcN n o := by
  rw [plD_prs]
  unfold prs
  rw [List.length_map, W.count O h2]
def slaw_ended : DSp := fun ds Q _ => ∃ (n : Nat) (t : List Int), ds = [iL t] ∧ Out n t ∧ n ≤ 1000 ∧ Q false (.tup ((invO t).map D.int)) []
theorem i_ended {n : Nat} {t : List Int} {Q : Bool → D → List D → Prop} {E : EdT} (h1 : Out n t) (h2 : n ≤ 1000) (h : Q false (.tup ((invO t).map D.int)) []) : slaw_ended [iL t] Q E := ⟨n, t, rfl, h1, h2, h⟩
def slaw_called : DSp := fun ds Q _ => ∃ (r t : List Int) (g : Nat), ds = [iL r, iL t, .int g] ∧ 2 ≤ r.length ∧ r.length ≤ 100 ∧ t.length = r.length ∧ g < r.length ∧ Q false (.bl (passT r t g)) [iL (callT r t g)]
theorem i_called {r t : List Int} {g : Nat} {Q : Bool → D → List D → Prop} {E : EdT} (h1 : 2 ≤ r.length) (h2 : r.length ≤ 100) (h3 : t.length = r.length) (h4 : g < r.length) (h : Q false (.bl (passT r t g)) [iL (callT r t g)]) : slaw_called [iL r, iL t, .int g] Q E := ⟨r, t, g, rfl, h1, h2, h3, h4, h⟩
def slaw_standing : DSp := fun ds Q _ => ∃ n : Nat, ds = [.int n] ∧ n ≤ 1000 ∧ Q true (iL (iota n)) []
theorem i_standing {n : Nat} {Q : Bool → D → List D → Prop} {E : EdT} (h1 : n ≤ 1000) (h : Q true (iL (iota n)) []) : slaw_standing [.int n] Q E := ⟨n, rfl, h1, h⟩
def slaw_run : DSp := fun ds Q _ => ∃ (n : Nat) (r gs : List Int), ds = [iL r, iL gs] ∧ r.length = n ∧ 2 ≤ n ∧ n ≤ 100 ∧ Sch n gs ∧ gs.length ≤ 1000 ∧ Q false (.tup [iL (runT r gs (iota n)), iL (passed r gs (iota n) 0)]) []
abbrev slaw_take : DSp := takeD
def slaw_schedule : DSp := fun ds Q _ => ∃ (b : D) (n m : Int), ds = [b, .int n, .int m] ∧ BagD b ∧ 2 ≤ n ∧ n ≤ 1000 ∧ 0 ≤ m ∧ m ≤ 1000 ∧ ∀ (l : List Int) b', (l.length : Int) ≤ m → Sch n l → BagD b' → Q true (.lst (l.map D.int)) [b']
theorem i_sched {b : D} {n m : Int} {Q : Bool → D → List D → Prop} {E : EdT} (hb : BagD b) (h1 : 2 ≤ n) (h2 : n ≤ 1000) (h3 : 0 ≤ m) (h4 : m ≤ 1000) (h : ∀ (l : List Int) b', (l.length : Int) ≤ m → Sch n l → BagD b' → Q true (.lst (l.map D.int)) [b']) : slaw_schedule [b, .int n, .int m] Q E := ⟨b, n, m, rfl, hb, h1, h2, h3, h4, h⟩
def slaw_ranks : DSp := fun ds Q _ => ∃ (b : D) (n : Int), ds = [b, .int n] ∧ BagD b ∧ 2 ≤ n ∧ n ≤ 100 ∧ ∀ (l : List Int) b', (l.length : Int) = n → (∀ x ∈ l, rkOk x) → BagD b' → Q true (.lst (l.map D.int)) [b']
theorem i_ranks {b : D} {n : Int} {Q : Bool → D → List D → Prop} {E : EdT} (hb : BagD b) (h1 : 2 ≤ n) (h2 : n ≤ 100) (h : ∀ (l : List Int) b', (l.length : Int) = n → (∀ x ∈ l, rkOk x) → BagD b' → Q true (.lst (l.map D.int)) [b']) : slaw_ranks [b, .int n] Q E := ⟨b, n, rfl, hb, h1, h2, h⟩
/-- an outcome that is being drawn: what is left, what is found, the laps so far -/
structure Drw (n : Nat) (r : Int) (lf fd : List Int) (tot : Int) (k : Nat) : Prop where
  lenf : fd.length = k
  lenl : lf.length + k = n
  perm : (lf ++ fd.map fun x => x % (n : Int)).Perm (iota n)
  mem : ∀ x ∈ lf, 0 ≤ x ∧ x < n
  sum : lf.sum + fd.sum = (iota n).sum + tot * n
  totb : k < n → tot.natAbs ≤ k * r.natAbs
  las : k = n → tot = 0
  bnd : ∀ x ∈ fd, x.natAbs ≤ n + n * r.natAbs * n
theorem Drw.zero (n : Nat) (r : Int) (h : 0 ≤ r) : Drw n r (iota n) [] 0 0 := ⟨rfl, iota_len n, by simp, fun x hx => mem_iota.mp hx, by simp, by simp, fun _ => rfl, by simp⟩
theorem Drw.out {n : Nat} {r : Int} {lf fd : List Int} {tot : Int} (W : Drw n r lf fd tot n) : Out n fd := by
  have e : lf = [] := List.length_eq_zero_iff.mp (by have := W.lenl; omega)
  have p := W.perm
  have s := W.sum
  rw [e] at p s
  rw [W.las rfl] at s
  exact out_perm (by simpa using p) (by simp only [List.sum_nil] at s; omega)
theorem eraseIdx_perm : ∀ {l : List Int} {i : Nat} (h : i < l.length), (l[i] :: l.eraseIdx i).Perm l
  | [], _, h => absurd h (by simp)
  | x :: l, 0, _ => List.Perm.refl _
  | x :: l, i + 1, h => by
    have hi : i < l.length := by simpa using h
    have ih := eraseIdx_perm (l := l) (i := i) hi
    rw [List.getElem_cons_succ, List.eraseIdx_cons_succ]
    exact (List.Perm.swap x l[i] (l.eraseIdx i)).trans (ih.cons x)
theorem Drw.step {n : Nat} {r : Int} {lf fd : List Int} {tot : Int} {k : Nat} (W : Drw n r lf fd tot k) (hk : k < n) {d lap : Int} (d0 : 0 ≤ d) (d1 : d < lf.length) (hl : (k + 1 = n ∧ lap = -tot) ∨ (k + 1 ≠ n ∧ lap.natAbs ≤ r.natAbs)) : Drw n r (lf.eraseIdx d.toNat) (fd ++ [ig lf d + lap * n]) (tot + lap) (k + 1) := by
  obtain ⟨i, rfl⟩ := Int.eq_ofNat_of_zero_le d0
  have hi : i < lf.length := by omega
  have hg := ig_get hi
  have hp : (lf[i] :: lf.eraseIdx i).Perm lf := eraseIdx_perm hi
  obtain ⟨m0, m1⟩ := W.mem lf[i] (List.getElem_mem hi)
  have hs := perm_sum hp
  rw [List.sum_cons] at hs
  rw [Int.toNat_natCast, hg]
  have tb := W.totb hk
  have lb : lap.natAbs ≤ n * r.natAbs := by
    rcases hl with ⟨e, rfl⟩ | ⟨e, h⟩
    · rw [Int.natAbs_neg]
      exact Nat.le_trans tb (Nat.mul_le_mul_right _ (by omega))
    · exact Nat.le_trans h (Nat.le_mul_of_pos_left _ (by omega))
  have hmod : (lf[i] + lap * n) % (n : Int) = lf[i] := by rw [Int.add_mul_emod_self_right, Int.emod_eq_of_lt m0 m1]
  refine ⟨by rw [List.length_append, W.lenf]; rfl, ?_, ?_, fun x hx => W.mem x (List.mem_of_mem_eraseIdx hx), ?_, fun hk' => ?_, fun hk' => ?_, fun x hx => ?_⟩
  · have := List.length_eraseIdx_of_lt hi
    have := W.lenl
    omega
  · rw [List.map_append, List.map_singleton, hmod, ← List.append_assoc]
    refine List.Perm.trans ?_ W.perm
    refine (List.perm_append_comm (l₂ := [lf[i]])).trans ?_
    rw [List.singleton_append, ← List.cons_append]
    exact hp.append_right _
  · have := W.sum
    rw [List.sum_append, List.sum_singleton, Int.add_mul]
    omega
  · rcases hl with ⟨e, rfl⟩ | ⟨e, h⟩
    · omega
    · have := Int.natAbs_add_le tot lap
      rw [Nat.add_mul, Nat.one_mul]
      omega
  · rcases hl with ⟨e, rfl⟩ | ⟨e, h⟩
    · omega
    · omega
  · rcases List.mem_append.mp hx with hx | hx
    · exact W.bnd x hx
    · rw [List.mem_singleton.mp hx]
      have h1 := Int.natAbs_add_le lf[i] (lap * n)
      rw [Int.natAbs_mul, Int.natAbs_natCast] at h1
      have h2 := Nat.mul_le_mul_right n lb
      omega
def slaw_drawn_outcome : DSp := fun ds Q _ => ∃ (b : D) (n : Nat) (r : Int), ds = [b, .int n, .int r] ∧ BagD b ∧ 2 ≤ n ∧ n ≤ 100 ∧ 0 ≤ r ∧ r ≤ 10 ^ 38 ∧ ∀ (o : List Int) b', Out n o → (∀ x ∈ o, x.natAbs ≤ n + n * r.natAbs * n) → BagD b' → Q false (.tup (o.map D.int)) [b']
theorem i_drawn {b : D} {n : Nat} {r : Int} {Q : Bool → D → List D → Prop} {E : EdT} (hb : BagD b) (h1 : 2 ≤ n) (h2 : n ≤ 100) (h3 : 0 ≤ r) (h4 : r ≤ 10 ^ 38) (h : ∀ (o : List Int) b', Out n o → (∀ x ∈ o, x.natAbs ≤ n + n * r.natAbs * n) → BagD b' → Q false (.tup (o.map D.int)) [b']) : slaw_drawn_outcome [b, .int n, .int r] Q E := ⟨b, n, r, rfl, hb, h1, h2, h3, h4, h⟩
def slaw_some_size : DSp := fun ds Q _ => ∃ (b : D) (m : Int), ds = [b, .int m] ∧ BagD b ∧ 2 ≤ m ∧ m ≤ 100 ∧ ∀ (n : Int) b', 2 ≤ n → n ≤ m → BagD b' → Q false (.int n) [b']
theorem i_some {b : D} {m : Int} {Q : Bool → D → List D → Prop} {E : EdT} (hb : BagD b) (h1 : 2 ≤ m) (h2 : m ≤ 100) (h : ∀ (n : Int) b', 2 ≤ n → n ≤ m → BagD b' → Q false (.int n) [b']) : slaw_some_size [b, .int m] Q E := ⟨b, m, rfl, hb, h1, h2, h⟩
abbrev slaw_bag : DSp := bagD
abbrev slaw : DSp := slawD
set_option maxHeartbeats 4000000 in
theorem v_end_of (ds : List D) (Qd : Bool → D → List D → Prop) (Ed : EdT) (hl : ds.length = 2) (h : send_of ds Qd Ed) : m_end_of (endsD [.S, .S] Qd) (startD ["outcome", "place", "laps", "person"] [.S, .S] ds) := by
  obtain ⟨o, x, rfl, h1, h2, hq⟩ := h
  unfold m_end_of
  lcg_src
  have m1 := Int.emod_nonneg x (show (o.length : Int) ≠ 0 by omega)
  have m2 := Int.emod_lt_of_pos x (show (0 : Int) < o.length by omega)
  have m3 : -(o.length : Int) ≤ x % o.length ∧ x % o.length < o.length := ⟨by omega, by omega⟩
  lcg_sub
  exact hq
set_option maxHeartbeats 4000000 in
theorem v_passed_by (ds : List D) (Qd : Bool → D → List D → Prop) (Ed : EdT) (hl : ds.length = 2) (h : spassed_by ds Qd Ed) : m_passed_by send_of (endsD [.S, .S] Qd) (startD ["outcome", "one", "step", "size", "found", "other"] [.S, .S] ds) := by
  obtain ⟨n, B, o, a, rfl, O, h1, h2, ha, hb, hB, hq⟩ := h
  unfold m_passed_by
  lcg_src
  have hol := O.len
  lcg_sub
  refine loop_rng n (fun i Γ => ∃ (s : Nat) (acc : List Int) (c2 c5 : Sl), i = s ∧ 0 < s ∧ Γ = [.sh (.tup (o.map D.int)), .sh (.int a), c2, .sh (.int n), .ow (iL acc), c5] ∧ fr c2 = true ∧ fr c5 = true ∧ Pby n o a B s acc) ?_ ?_ ?_ _ _ _ (by omega) ⟨1, [], _, _, rfl, by omega, by rw [hol]; rfl, rfl, rfl, Pby.zero O h1⟩
  · intro i Γ _; exact trivial
  · rintro Γ ⟨s, acc, c2, c5, e, s0, rfl, f2, f5, W⟩
    obtain rfl : n = s := by omega
    have hl : acc.length ≤ 100000 := by
      have := W.len
      have := Nat.mul_le_mul h2 (show 2 * B ≤ 6000 by omega)
      omega
    lcg_sub
    refine ⟨acc, ints?_map acc, fun ms p sr => ?_⟩
    exact hq ms (pb_sort W.nd (W.all (by omega)) p sr)
  · rintro i Γ N hi ⟨s, acc, c2, c5, rfl, s0, rfl, f2, f5, W⟩ hN
    have hsn : s < n := by omega
    lcg_sub
    refine ⟨fun m Γ => ∃ (acc : List Int) (k : Nat), m = (endAt o a - endAt o (a + s + k * n)).toNat ∧ Γ = [.sh (.tup (o.map D.int)), .sh (.int a), .sh (.int s), .sh (.int n), .ow (iL acc), .sh (.int (a + s + k * n))] ∧ Pin n o a B s k acc, ⟨_, acc, 0, rfl, ?_, .start W⟩, ?_⟩
    · rw [show (a : Int) + s + ((0 : Nat) : Int) * n = a + s by omega]
    rintro m Γ ⟨acc, k, rfl, rfl, W⟩
    have i1 : -(o.length : Int) ≤ a ∧ (a : Int) < o.length := by omega
    have hmany := W.many O h1 ha hb
    have hl : acc.length < 100000 := by
      have := W.len
      have := Nat.mul_le_mul (show s ≤ 12 by omega) (show 2 * B ≤ 6000 by omega)
      omega
    lcg_sub
    have ea : endAt o (a : Int) = ig o (a : Int) := endAt_nat (by omega)
    by_cases hc : endAt o (a + s + k * n) < ig o (a : Int)
    · rw [decide_eq_true hc]
      refine qT rfl ?_
      lcg_sub
      have W' := W.step hsn (by rw [ea]; exact hc)
      have hk1 : (a : Int) + s + k * n + n = a + s + ((k + 1 : Nat) : Int) * n := by
        rw [show ((k + 1 : Nat) : Int) = (k : Int) + 1 by omega, Int.add_mul]; omega
      refine ⟨(endAt o a - endAt o (a + s + ((k + 1 : Nat) : Int) * n)).toNat, ?_, acc ++ [(a : Int) + s + k * n], k + 1, rfl, ?_, W'⟩
      · rw [ea, ← hk1]
        have := end_lap O (by omega) ((a : Int) + s + k * n) 1
        rw [show ((1 : Nat) : Int) * n = n by omega] at this
        rw [this]; omega
      · rw [hk1]
    · rw [decide_eq_false hc]
      refine qF rfl ?_
      lcg_sub
      exact hN _ ⟨s + 1, acc, _, _, by omega, by omega, rfl, rfl, rfl, W.done O h1 ha hb s0 hsn (by rw [ea]; exact hc)⟩
set_option maxHeartbeats 4000000 in
theorem v_pass_count (ds : List D) (Qd : Bool → D → List D → Prop) (Ed : EdT) (hl : ds.length = 1) (h : spass_count ds Qd Ed) : m_pass_count (endsD [.S] Qd) (startD ["outcome", "other", "size", "total", "one"] [.S] ds) := by
  obtain ⟨n, o, rfl, h0, h1, h2, hq⟩ := h
  unfold m_pass_count
  lcg_src
  lcg_sub
  rw [h0]
  refine loop_rng n (fun j Γ => ∃ (c1 c4 : Sl), Γ = [.sh (.tup (o.map D.int)), c1, .sh (.int n), .sh (.int ((sumN j.toNat fun j => sumN j fun i => ((ig o (j : Int) - ig o (i : Int)) / (n : Int)).natAbs : Nat) : Int)), c4] ∧ fr c1 = true ∧ fr c4 = true ∧ 0 ≤ j) ?_ ?_ ?_ _ _ _ (by omega) ⟨_, _, rfl, rfl, rfl, by omega⟩
  · intro i Γ _; exact trivial
  · rintro Γ ⟨c1, c4, rfl, -⟩
    lcg_sub
    exact hq
  · rintro j Γ N hj ⟨c1, c4, rfl, f1, f4, j0⟩ hN
    obtain ⟨j, rfl⟩ := Int.eq_ofNat_of_zero_le j0
    lcg_sub
    generalize ha : (sumN ((j : Int)).toNat fun j => sumN j fun i => ((ig o (j : Int) - ig o (i : Int)) / (n : Int)).natAbs) = a
    refine loop_rng j (fun i Γ => ∃ (c4 : Sl), Γ = [.sh (.tup (o.map D.int)), .sh (.int j), .sh (.int n), .sh (.int ((a + sumN i.toNat fun i => ((ig o (j : Int) - ig o (i : Int)) / (n : Int)).natAbs : Nat) : Int)), c4] ∧ fr c4 = true ∧ 0 ≤ i) ?_ ?_ ?_ _ _ _ (by omega) ⟨_, rfl, f4, by omega⟩
    · intro i Γ _; exact trivial
    · rintro Γ ⟨c4, rfl, f4, -⟩
      refine hN _ ⟨.sh (.int j), c4, ?_, rfl, f4, by omega⟩
      rw [show ((j : Int) + 1).toNat = j + 1 by omega, sumN_succ, ← ha]
      rfl
    · rintro i Γ M hi ⟨c4, rfl, f4, i0⟩ hM
      obtain ⟨i, rfl⟩ := Int.eq_ofNat_of_zero_le i0
      have i1 : -(o.length : Int) ≤ i ∧ (i : Int) < o.length := by omega
      have i2 : -(o.length : Int) ≤ j ∧ (j : Int) < o.length := by omega
      lcg_sub
      refine hM _ ⟨.sh (.int i), ?_, rfl, by omega⟩
      rw [show ((i : Int) + 1).toNat = i + 1 by omega, sumN_succ]
      simp only [Int.toNat_natCast]
      congr 4
      congr 2
      omega
set_option maxHeartbeats 4000000 in
theorem v_passes {C_TooMany : Addr} (ds : List D) (Qd : Bool → D → List D → Prop) (Ed : EdT) (hl : ds.length = 2) (h : spasses C_TooMany ds Qd Ed) : m_passes C_TooMany spassed_by spass_count (wEnd [.S, .S] Ed) (endsD [.S, .S] Qd) (startD ["outcome", "limit", "one", "other"] [.S, .S] ds) := by
  obtain ⟨n, B, o, m, rfl, O, h1, h2, hx, hq⟩ := h
  unfold m_passes
  lcg_src
  have hol := O.len
  lcg_sub
  refine i_pcount hol h1 (by omega) ?_
  by_cases hm : m < (pcN n o : Int)
  · have hx := hx hm
    lcg_sub
    exact hx
  obtain ⟨hb, hB, hq⟩ := hq (by omega)
  lcg_sub
  refine comp2_inv (fun xs acc Γ => ∃ (k : Nat) (ls : List (List Int)), xs = rngD (ls.length : Int) k ∧ ls.length + k = n ∧ acc = plD 0 ls ∧ (∀ a : Nat, a < ls.length → PB o a (ls[a]?.getD [])) ∧ Γ = [.sh (.tup (o.map D.int)), .sh (.int m), .no, .no]) ?_ ?_ ?_ _ _ _ ⟨n, [], by rw [hol]; rfl, by simp, rfl, fun a h => absurd h (by simp), rfl⟩
  · rintro xs acc Γ ⟨k, ls, -, -, -, -, rfl⟩
    exact ⟨trivial, rfl⟩
  · rintro acc Γ ⟨k, ls, hx, hk, rfl, W, rfl⟩
    have k0 : k = 0 := by
      cases k with
      | zero => rfl
      | succ k => rw [rngD_cons] at hx; cases hx
    exact hq ls ⟨by omega, fun a ha => W a (by omega)⟩
  · rintro x xs acc Γ N ⟨k, ls, hx, hk, rfl, W, rfl⟩ hN
    cases k with
    | zero => cases hx
    | succ k =>
      rw [rngD_cons] at hx
      injection hx with hx1 hx2
      subst hx1 hx2
      have hln : ls.length < n := by omega
      have hml := PLs.mem_len O (by omega) hb (by omega) W
      have hpl := plD_len ls 0 hml
      have hb1 : ls.length * (2 * B + n) ≤ 12 * 6012 := Nat.mul_le_mul (by omega) (by omega)
      lcg_sub
      refine i_pby O h1 h2 hln hb hB fun l hl => ?_
      have hll := hl.len O (by omega) hb hln
      lcg_sub
      refine comp_fn (prG (ls.length : Int)) (by exact trivial) (by rfl) _ _ (fun x hx N hN => ?_) ?_ ?_
      · obtain ⟨q, _, rfl⟩ := List.mem_map.mp hx
        lcg_sub
        exact hN
      · rw [List.length_map]; omega
      · rw [prG_all]
        refine hN _ _ ⟨k, ls ++ [l], by rw [List.length_append, List.length_singleton]; rfl, by rw [List.length_append, List.length_singleton]; omega, ?_, fun a ha => ?_, rfl⟩
        · rw [plD_app, plD, plD, List.append_nil, Nat.zero_add]
        · rw [List.length_append, List.length_singleton] at ha
          by_cases hal : a = ls.length
          · subst hal
            rw [List.getElem?_append_right (Nat.le_refl _), Nat.sub_self]
            exact hl
          · rw [List.getElem?_append_left (by omega)]
            exact W a (by omega)
set_option maxHeartbeats 4000000 in
theorem v_law_listed {C_RingError C_TooMany : Addr} (ds : List D) (Qd : Bool → D → List D → Prop) (Ed : EdT) (hl : ds.length = 2) (h : slaw_listed C_RingError C_TooMany ds Qd Ed) : m_law_listed C_RingError C_TooMany (spasses C_TooMany) (wEnd [.S, .S] Ed) (endsD [.S, .S] Qd) (startD ["_law_outcome", "_law_bound", "e"] [.S, .S] ds) := by
  obtain ⟨n, B, o, m, rfl, O, h1, h2, hx, hq⟩ := h
  unfold m_law_listed
  lcg_src
  lcg_sub
  by_cases hl : m = 400
  · subst hl
    refine e_dT (by rfl) ?_
    lcg_sub
    refine i_passesX (B := B) O h1 h2 (fun hd => ?_) fun hd => ?_
    · have hx := hx hd
      lcg_sub
      exact hx
    · obtain ⟨hb, hB, hq⟩ := hq hd
      refine ⟨hb, hB, fun ls hls => ?_⟩
      have hq := hq ls hls
      lcg_sub
      exact hq
  · refine e_dF (by omega) ?_
    lcg_sub
    refine i_passesX (B := B) O h1 h2 (fun hd => ?_) fun hd => ?_
    · have hx := hx hd
      lcg_sub
      exact hx
    · obtain ⟨hb, hB, hq⟩ := hq hd
      refine ⟨hb, hB, fun ls hls => ?_⟩
      have hq := hq ls hls
      lcg_sub
      exact hq
set_option maxHeartbeats 4000000 in
theorem v_law_alike (ds : List D) (Qd : Bool → D → List D → Prop) (Ed : EdT) (hl : ds.length = 2) (h : slaw_alike ds Qd Ed) : m_law_alike (endsD [.S, .S] Qd) (startD ["_law_found", "_law_due"] [.S, .S] ds) := by
  obtain ⟨a, b, rfl, rfl, hn, hq⟩ := h
  unfold m_law_alike
  lcg_src
  lcg_sub
  refine i_eq hn.okE hn.okE hn.eqv ?_
  lcg_sub
  refine i_repr hn.okR ?_
  lcg_sub
  refine i_repr hn.okR ?_
  lcg_sub
  refine i_eqS hn.okS ?_
  lcg_sub
  exact hq
set_option maxHeartbeats 4000000 in
theorem v_law_passes (ds : List D) (Qd : Bool → D → List D → Prop) (Ed : EdT) (hl : ds.length = 1) (h : slaw_passes ds Qd Ed) : m_law_passes (endsD [.S] Qd) (startD ["_law_outcome", "_law_far", "_law_one", "_law_size", "_law_found", "_law_other", "_law_end"] [.S] ds) := by
  obtain ⟨n, B, o, rfl, O, h1, h2, hb, hB, hq⟩ := h
  unfold m_law_passes
  lcg_src
  have hol := O.len
  lcg_sub
  have hmB := hb most hmost
  have hlB := hb least hleast
  refine loop_rng n (fun i Γ => ∃ (ls : List (List Int)) (c2 c5 c6 : Sl), i = ls.length ∧ Γ = [.sh (.tup (o.map D.int)), .sh (.int (most - least + 2 * n)), c2, .sh (.int n), .ow (.lst (plD 0 ls)), c5, c6] ∧ fr c2 = true ∧ fr c5 = true ∧ fr c6 = true ∧ ∀ a : Nat, a < ls.length → PB o a (ls[a]?.getD [])) ?_ ?_ ?_ _ _ _ (by omega) ⟨[], .no, .no, .no, rfl, by rw [hol]; rfl, rfl, rfl, rfl, fun a h => absurd h (by simp)⟩
  · intro i Γ _; exact trivial
  · rintro Γ ⟨ls, c2, c5, c6, e, rfl, f2, f5, f6, W⟩
    lcg_sub
    exact hq ls ⟨by omega, fun a ha => W a (by omega)⟩
  · rintro i Γ N hi ⟨ls, c2, c5, c6, rfl, rfl, f2, f5, f6, W⟩ hN
    have hln : ls.length < n := by omega
    have hml := PLs.mem_len O (by omega) hb (by omega) W
    have hpl := plD_len ls 0 hml
    have hb1 : ls.length * (2 * B + n) ≤ 12 * 6012 := Nat.mul_le_mul (by omega) (by omega)
    have hle := hleast2 most hmost
    lcg_sub
    refine loop_rng ((ls.length : Int) + (most - least + 2 * n)) (fun i Γ => ∃ (k : Nat) (c5 c6 : Sl), i = ls.length + 1 + k ∧ Γ = [.sh (.tup (o.map D.int)), .sh (.int (most - least + 2 * n)), .sh (.int ls.length), .sh (.int n), .ow (.lst (plD 0 ls ++ (filt o ls.length k).map (prD ls.length))), c5, c6] ∧ fr c5 = true ∧ fr c6 = true) ?_ ?_ ?_ _ _ _ (by omega) ⟨0, _, _, by omega, by simp [filt], f5, f6⟩
    · intro i Γ _; exact trivial
    · rintro Γ ⟨k, c5, c6, e, rfl, f5, f6⟩
      refine hN _ ⟨ls ++ [filt o ls.length k], .sh (.int (ls.length : Int)), c5, c6, by simp, ?_, rfl, f5, f6, fun a ha => ?_⟩
      · rw [plD_app, plD, plD, List.append_nil, Nat.zero_add]
      · rw [List.length_append, List.length_singleton] at ha
        by_cases hal : a = ls.length
        · subst hal
          rw [List.getElem?_append_right (Nat.le_refl _), Nat.sub_self]
          refine filt_pb fun q h1' h2' => ?_
          have := pass_far O (by omega) (lo := least) (hi := most) (fun x hx => ⟨hleast2 x hx, hmost2 x hx⟩) hln h2'
          omega
        · rw [List.getElem?_append_left (by omega)]
          exact W a (by omega)
    · rintro i Γ N2 hi2 ⟨k, c5, c6, rfl, rfl, f5, f6⟩ hN2
      have hfl := filt_len o ls.length k
      have hlen : (plD 0 ls ++ (filt o ls.length k).map (prD ls.length)).length < 100000 := by
        rw [List.length_append, List.length_map]; omega
      have i1 : -(o.length : Int) ≤ ((ls.length : Int) + 1 + k) % n ∧ ((ls.length : Int) + 1 + k) % n < o.length := by
        have := Int.emod_nonneg ((ls.length : Int) + 1 + k) (show (n : Int) ≠ 0 by omega)
        have := Int.emod_lt_of_pos ((ls.length : Int) + 1 + k) (show (0 : Int) < n by omega)
        omega
      have i2 : -(o.length : Int) ≤ (ls.length : Int) ∧ (ls.length : Int) < o.length := by omega
      have ee : ig o (((ls.length : Int) + 1 + k) % n) + ((ls.length : Int) + 1 + k) - ((ls.length : Int) + 1 + k) % n = endAt o ((ls.length : Int) + 1 + k) := by
        unfold endAt
        rw [hol]
        have := Int.mul_ediv_add_emod ((ls.length : Int) + 1 + k) n
        rw [Int.mul_comm] at this
        omega
      have ea : ig o (ls.length : Int) = endAt o (ls.length : Int) := (endAt_nat (by omega)).symm
      lcg_sub
      rw [ee, ea]
      by_cases hc : endAt o ((ls.length : Int) + 1 + k) < endAt o (ls.length : Int)
      · rw [decide_eq_true hc]
        lcg_sub
        refine hN2 _ ⟨k + 1, .sh (.int ((ls.length : Int) + 1 + k)), .sh (.int (endAt o ((ls.length : Int) + 1 + k))), by omega, ?_, rfl, rfl⟩
        rw [filt_succ, if_pos hc, List.map_append, List.append_assoc]
        rfl
      · rw [decide_eq_false hc]
        lcg_sub
        refine hN2 _ ⟨k + 1, .sh (.int ((ls.length : Int) + 1 + k)), .sh (.int (endAt o ((ls.length : Int) + 1 + k))), by omega, ?_, rfl, rfl⟩
        rw [filt_succ, if_neg hc, List.append_nil]
set_option maxHeartbeats 4000000 in
theorem v_law_counted (ds : List D) (Qd : Bool → D → List D → Prop) (Ed : EdT) (hl : ds.length = 1) (h : slaw_counted ds Qd Ed) : m_law_counted (endsD [.S] Qd) (startD ["_law_outcome", "_law_other", "_law_total", "_law_size", "_law_one", "_law_laps"] [.S] ds) := by
  obtain ⟨n, o, rfl, O, h1, h2, hq⟩ := h
  unfold m_law_counted
  lcg_src
  have hl := O.len
  lcg_sub
  unfold pcN at hq
  rw [hl]
  refine loop_rng n (fun i Γ => ∃ (j : Nat) (c1 c4 c5 : Sl), i = j ∧ j ≤ n ∧ Γ = [.sh (.tup (o.map D.int)), c1, .sh (.int (sumN j fun j => sumN j fun i => ((ig o (j : Int) - ig o (i : Int)) / (n : Int)).natAbs : Nat)), .sh (.int n), c4, c5] ∧ fr c1 = true ∧ fr c4 = true ∧ fr c5 = true) ?_ ?_ ?_ _ _ _ (by omega) ⟨0, .no, .no, .no, rfl, Nat.zero_le _, rfl, rfl, rfl, rfl⟩
  · intro i Γ _; exact trivial
  · rintro Γ ⟨j, c1, c4, c5, hj, _, rfl, -⟩
    obtain rfl : j = n := by omega
    lcg_sub
    exact hq
  · rintro i Γ N hi ⟨j, c1, c4, c5, rfl, hj, rfl, f1, f4, f5⟩ hN
    generalize hS : (sumN j fun j => sumN j fun i => ((ig o (j : Int) - ig o (i : Int)) / (n : Int)).natAbs) = S at *
    lcg_sub
    refine loop_rng j (fun i Γ => ∃ (k : Nat) (c4 c5 : Sl), i = k ∧ k ≤ j ∧ Γ = [.sh (.tup (o.map D.int)), .sh (.int j), .sh (.int (S + sumN k fun i => ((ig o (j : Int) - ig o (i : Int)) / (n : Int)).natAbs : Nat)), .sh (.int n), c4, c5] ∧ fr c4 = true ∧ fr c5 = true) ?_ ?_ ?_ _ _ _ (by omega) ⟨0, c4, c5, rfl, Nat.zero_le _, rfl, f4, f5⟩
    · intro i Γ _; exact trivial
    · rintro Γ ⟨k, c4, c5, hk, _, rfl, f4, f5⟩
      obtain rfl : k = j := by omega
      refine hN _ ⟨k + 1, .sh (.int k), c4, c5, by omega, by omega, ?_, rfl, f4, f5⟩
      rw [← hS, sumN_succ]
    · rintro i Γ M hi2 ⟨k, c4, c5, rfl, hk, rfl, f4, f5⟩ hM
      have i1 : -(o.length : Int) ≤ k ∧ (k : Int) < o.length := by omega
      have i2 : -(o.length : Int) ≤ j ∧ (j : Int) < o.length := by omega
      have hne := fl_neg (n := n) (by omega) (a := ig o (k : Int)) (b := ig o (j : Int)) fun e => by
        have := O.inj k j (by omega) (by omega) e
        omega
      lcg_sub
      rw [hne]
      refine i_ixB fun x hx => ?_
      have hxn : x = (((ig o (j : Int) - ig o (k : Int)) / (n : Int)).natAbs : Nat) := by
        rcases hx with ⟨rfl, h⟩ | ⟨rfl, h⟩
        · have := of_decide_eq_false h; omega
        · have := of_decide_eq_true h; omega
      subst hxn
      lcg_sub
      refine hM _ ⟨k + 1, .sh (.int k), .sh (.int ((ig o (j : Int) - ig o (k : Int)) / (n : Int))), by omega, by omega, ?_, rfl, rfl⟩
      rw [sumN_succ, ← Nat.add_assoc, Int.natCast_add (S + _)]
set_option maxHeartbeats 4000000 in
theorem v_law_right {C_RingError C_TooMany : Addr} (ds : List D) (Qd : Bool → D → List D → Prop) (Ed : EdT) (hl : ds.length = 2) (h : slaw_right C_RingError C_TooMany ds Qd Ed) : m_law_right (slaw_listed C_RingError C_TooMany) slaw_alike slaw_passes spass_count slaw_counted (endsD [.S, .S] Qd) (startD ["_law_outcome", "_law_few", "_law_many", "_law_due", "_law_bound", "_law_limits", "_law_found"] [.S, .S] ds) := by
  obtain ⟨n, B, o, few, rfl, O, h1, h2, ho, hf, hq⟩ := h
  unfold m_law_right
  lcg_src
  lcg_sub
  refine i_lcounted O h1 (by omega) ?_
  lcg_sub
  refine i_pcount O.len h1 (by omega) ?_
  have hpa := pc_abs O h2 ho
  lcg_sub
  refine ⟨_, _, rfl, rfl, NiceD.int (by rw [Int.natAbs_natCast]; exact Nat.lt_trans hpa (by decide)), ?_⟩
  lcg_sub
  cases few with
  | false =>
    lcg_sub
    refine comp_fn (filG fun b => decide (b < (pcN n o : Int))) (by exact trivial) rfl ([400, 1, 1000].map D.int) _ (fun x hx N hN => ?_) ?_ ?_
    · obtain ⟨b, hb, rfl⟩ := List.mem_map.mp hx
      lcg_sub
      refine e_dif (fun hc => ?_) (fun hc => ?_)
      · lcg_sub
        rw [filG_T (decide_eq_true hc)] at hN; exact hN
      · rw [filG_F (decide_eq_false hc)] at hN; exact hN
    · simp
    rw [List.nil_append, filG_all]
    have hL : ∀ b ∈ ([400, 1, 1000] : List Int).filter (fun b => decide (b < (pcN n o : Int))), b < (pcN n o : Int) ∧ b.natAbs ≤ 2000 := fun b hb => by
      obtain ⟨h1, h2⟩ := List.mem_filter.mp hb
      refine ⟨of_decide_eq_true h2, ?_⟩
      simp only [List.mem_cons, List.not_mem_nil, or_false] at h1
      rcases h1 with rfl | rfl | rfl <;> decide
    have hLl : (([400, 1, 1000] : List Int).filter (fun b => decide (b < (pcN n o : Int)))).length ≤ 3 := List.length_filter_le _ _
    generalize ([400, 1, 1000] : List Int).filter (fun b => decide (b < (pcN n o : Int))) = L at hL hLl
    lcg_sub
    refine comp_fn (fun _ => none) (by exact trivial) rfl (L.map D.int) _ (fun x hx N hN => ?_) ?_ ?_
    · obtain ⟨b, hb, rfl⟩ := List.mem_map.mp hx
      obtain ⟨b1, b2⟩ := hL b hb
      lcg_sub
      refine i_llisted (B := B) O h1 h2 (fun _ => ?_) fun z => absurd z (by omega)
      lcg_sub
      refine i_neSame (nice_many b2) ?_
      lcg_sub
      exact hN
    · rw [List.length_map]; simp only [List.length_nil]; omega
    rw [none_all]
    lcg_sub
    refine i_eqL (i := []) (j := []) ?_
    exact hq
  | true =>
    obtain ⟨hb, hB⟩ := hf rfl
    lcg_sub
    refine i_lpasses O h1 h2 hb hB fun ls W => ?_
    have hcnt := plD_cnt O h1 W
    lcg_sub
    refine loop_ints (fun xs Γ => ∃ (c4 c6 : Sl), (∀ b ∈ xs, 1 ≤ b ∧ b ≤ 1000) ∧ Γ = [.sh (.tup (o.map D.int)), .sh (.bl true), .sh (.int (pcN n o)), .sh (.lst (plD 0 ls)), c4, .no, c6] ∧ fr c4 = true ∧ fr c6 = true) ?_ ?_ ?_ [400, max 1 (min 1000 ((pcN n o : Int) - 1)), max 1 (min 1000 (pcN n o : Int)), max 1 (min 1000 ((pcN n o : Int) + 1)), 400] _ ⟨.no, .no, fun x hx => ?_, rfl, rfl, rfl⟩
    · intro xs Γ _; exact trivial
    · rintro Γ ⟨c4, c6, -, rfl, f4, f6⟩
      lcg_sub
      rw [hcnt, decide_eq_true rfl]
      exact hq
    · rintro b xs Γ M ⟨c4, c6, hx, rfl, f4, f6⟩ hM
      obtain ⟨b0, b1⟩ := hx b (List.mem_cons_self ..)
      have hM' : M [.sh (.tup (o.map D.int)), .sh (.bl true), .sh (.int (pcN n o)), .sh (.lst (plD 0 ls)), .sh (.int b), .no, .no] := hM _ ⟨.sh _, .no, fun x hx' => hx x (List.mem_cons_of_mem _ hx'), rfl, rfl, rfl⟩
      lcg_sub
      refine i_llisted (B := B) O h1 h2 (fun hc => ?_) fun hc => ⟨hb, hB, fun ls' W' => ?_⟩
      · lcg_sub
        trace_state
        refine i_neSame (nice_many (by omega)) ?_
        lcg_sub
        exact hM'
      · obtain rfl := W.uniq W'
        have hpl : (plD 0 ls).length < 100000 := by omega
        lcg_sub
        have N : NiceD (.tup [.str (Str.ofString "told"), .lst (plD 0 ls)]) := (Ni.tup (Nis.cons (Ni.str (x := Str.ofString "told") (m := 10) (strOk_of _) (by decide)) (Nis.cons (ni_pls O h1 h2 hb hB W (by omega)) Nis.nil))).done (by decide) (by decide)
        refine ⟨_, _, rfl, rfl, N, ?_⟩
        lcg_sub
        exact hM'
    · simp only [List.mem_cons, List.not_mem_nil, or_false] at hx
      omega
set_option maxHeartbeats 4000000 in
theorem v_law_ended (ds : List D) (Qd : Bool → D → List D → Prop) (Ed : EdT) (hl : ds.length = 1) (h : slaw_ended ds Qd Ed) : m_law_ended (endsD [.S] Qd) (startD ["_law_there", "_law_size", "_law_found", "_law_place", "_law_person"] [.S] ds) := by
  obtain ⟨n, t, rfl, O, h2, hq⟩ := h
  unfold m_law_ended
  lcg_src
  have hl := O.len
  lcg_sub
  refine loop_rng n (fun i Γ => ∃ (k : Nat) (c3 c4 : Sl) (l : List Int), i = k ∧ Γ = [.sh (iL t), .sh (.int t.length), .ow (iL l), c3, c4] ∧ fr c3 = true ∧ fr c4 = true ∧ Scat n t l k) ?_ ?_ ?_ _ _ _ (by omega) ⟨0, _, _, _, rfl, rfl, rfl, rfl, by rw [hl]; exact Scat.zero n t⟩
  · intro i Γ _; exact trivial
  · rintro Γ ⟨k, c3, c4, l, hk, rfl, f3, f4, S⟩
    have hk : k = n := by omega
    subst hk
    rw [S.done O]
    lcg_sub
    exact hq
  · rintro i Γ N hi ⟨k, c3, c4, l, rfl, rfl, f3, f4, S⟩ hN
    have r := O.res (i := k) (by omega)
    have hS := S.len
    have st := S.step O (show k < n by omega)
    rw [← hl] at r st
    have i1 : -(t.length : Int) ≤ k ∧ (k : Int) < t.length := by omega
    lcg_sub
    exact hN _ ⟨k + 1, _, _, _, by omega, rfl, rfl, rfl, by rw [hl] at st ⊢; exact st⟩
set_option maxHeartbeats 4000000 in
theorem v_law_called (ds : List D) (Qd : Bool → D → List D → Prop) (Ed : EdT) (hl : ds.length = 3) (h : slaw_called ds Qd Ed) : m_law_called (endsD [.S, .M, .S] Qd) (startD ["_law_ranks_here", "_law_there", "_law_gap", "_law_size", "_law_first", "_law_second"] [.S, .M, .S] ds) := by
  obtain ⟨r, t, g, rfl, h1, h2, h3, h4, hq⟩ := h
  unfold m_law_called
  lcg_src
  have bd : ∀ x : Int, -(r.length : Int) ≤ x % r.length ∧ x % r.length < r.length := fun x => ⟨by have := Int.emod_nonneg x (show (r.length : Int) ≠ 0 by omega); omega, Int.emod_lt_of_pos x (by omega)⟩
  by_cases hg : (g : Int) < (r.length : Int) - 1
  · have en : nxP t.length g = g + 1 := by unfold nxP; rw [if_pos (by omega)]
    have es : shP t.length g = 0 := by unfold shP; rw [if_pos (by omega)]
    have b1 := bd (ig t (g : Int))
    have b2 := bd (ig t ((g : Int) + 1))
    have ep : passT r t g = decide (ig r (ig t ((g : Int) + 1) % r.length) < ig r (ig t (g : Int) % r.length)) := by
      unfold passT rkP
      rw [en, es, Int.add_zero]; rfl
    lcg_sub
    refine e_dif (fun hc => ?_) (fun hc => ?_)
    · rw [decide_eq_true hc] at ep
      have ec : callT r t g = (t.set g (ig t ((g : Int) + 1))).set (g + 1) (ig t (g : Int)) := by
        unfold callT swapT
        rw [if_pos ep, en, es, Int.add_zero, Int.sub_zero]; rfl
      rw [ep, ec] at hq
      lcg_sub
      exact hq
    · rw [decide_eq_false hc] at ep
      have ec : callT r t g = t := by
        unfold callT
        rw [if_neg (by rw [ep]; exact Bool.false_ne_true)]
      lcg_sub
      rw [ep, ec] at hq
      exact hq
  · have hg2 : g + 1 = r.length := by omega
    have en : nxP t.length g = 0 := by unfold nxP; rw [if_neg (by omega)]
    have es : shP t.length g = r.length := by unfold shP; rw [if_neg (by omega), h3]
    have eg : (r.length : Int) - 1 = g := by omega
    have b1 := bd (ig t (g : Int))
    have b2 := bd (ig t 0 + r.length)
    have ep : passT r t g = decide (ig r ((ig t 0 + r.length) % r.length) < ig r (ig t (g : Int) % r.length)) := by
      unfold passT rkP
      rw [en, es]; rfl
    have i1 : -(t.length : Int) ≤ (r.length : Int) - 1 ∧ (r.length : Int) - 1 < t.length := by omega
    rw [← eg] at b1 ep
    lcg_sub
    refine e_dif (fun hc => ?_) (fun hc => ?_)
    · rw [decide_eq_true hc] at ep
      have ec : callT r t g = (t.set g (ig t 0 + r.length)).set 0 (ig t ((r.length : Int) - 1) - r.length) := by
        unfold callT swapT
        rw [if_pos ep, en, es, eg]; rfl
      rw [ep, ec] at hq
      have et : ((r.length : Int) - 1).toNat = g := by omega
      rw [← et] at hq
      lcg_sub
      exact hq
    · rw [decide_eq_false hc] at ep
      have ec : callT r t g = t := by
        unfold callT
        rw [if_neg (by rw [ep]; exact Bool.false_ne_true)]
      rw [ep, ec] at hq
      lcg_sub
      exact hq
set_option maxHeartbeats 4000000 in
theorem v_law_standing (ds : List D) (Qd : Bool → D → List D → Prop) (Ed : EdT) (hl : ds.length = 1) (h : slaw_standing ds Qd Ed) : m_law_standing (endsD [.S] Qd) (startD ["_law_size"] [.S] ds) := by
  obtain ⟨n, rfl, h1, hq⟩ := h
  unfold m_law_standing
  lcg_src
  lcg_sub
  rw [rgD_iota]
  exact hq
set_option maxHeartbeats 4000000 in
theorem v_law_run (ds : List D) (Qd : Bool → D → List D → Prop) (Ed : EdT) (hl : ds.length = 2) (h : slaw_run ds Qd Ed) : m_law_run slaw_called slaw_standing (endsD [.S, .S] Qd) (startD ["_law_ranks_here", "_law_schedule_here", "_law_there", "_law_found", "_law_at", "_law_gap"] [.S, .S] ds) := by
  obtain ⟨n, r, gs, rfl, hr, h1, h2, hs, hl2, hq⟩ := h
  unfold m_law_run
  lcg_src
  lcg_sub
  refine loop_enum (fun i xs Γ => ∃ (t acc gs' : List Int) (c4 c5 : Sl), xs = gs'.map D.int ∧ Γ = [.sh (iL r), .sh (iL gs), .ow (iL t), .ow (iL acc), c4, c5] ∧ fr c4 = true ∧ fr c5 = true ∧ t.length = n ∧ Sch n gs' ∧ runT r gs' t = runT r gs (iota n) ∧ acc ++ passed r gs' t i = passed r gs (iota n) 0 ∧ acc.length + gs'.length ≤ 1000) ?_ ?_ ?_ _ _ _ ⟨iota n, [], gs, _, _, rfl, by rw [hr]; rfl, rfl, rfl, iota_len n, hs, rfl, rfl, by simpa using hl2⟩
  · intro i xs Γ _; first | exact trivial | (rename_i hSRC; revert hSRC; simp only [forall_exists_index, and_imp]; intros; subst_vars; rfl)
  · rintro i Γ ⟨t, acc, gs', c4, c5, hx, rfl, f4, f5, ht, hs', h1, h2, h3⟩
    have e : gs' = [] := by cases gs' with | nil => rfl | cons _ _ => cases hx
    subst e
    have h2 : acc = passed r gs (iota n) 0 := by rw [← h2]; simp [passed]
    have h1 : t = runT r gs (iota n) := h1
    lcg_sub
    rw [h1, h2]
    exact hq
  · rintro i x xs Γ N ⟨t, acc, gs', c4, c5, hx, rfl, f4, f5, ht, hs', h1, h2, h3⟩ hN
    cases gs' with
    | nil => cases hx
    | cons g gs' =>
      injection hx with hx1 hx2
      subst hx1 hx2
      obtain ⟨g0, g1⟩ := hs'.mem g (List.mem_cons_self ..)
      obtain ⟨k, rfl⟩ := Int.eq_ofNat_of_zero_le g0
      have hs2 : Sch n gs' := ⟨fun x hx => hs'.mem x (List.mem_cons_of_mem _ hx)⟩
      have e1 : runT r (((k : Nat) : Int) :: gs') t = runT r gs' (callT r t k) := rfl
      have e2 : passed r (((k : Nat) : Int) :: gs') t i = if passT r t k = true then ((i : Nat) : Int) :: passed r gs' (callT r t k) (i + 1) else passed r gs' (callT r t k) (i + 1) := rfl
      rw [List.length_cons] at h3
      lcg_sub
      refine i_called (by omega) (by omega) (by omega) (by omega) ?_
      lcg_sub
      refine e_ite (fun hp => ?_) (fun hp => ?_)
      · rw [hp, if_pos rfl] at e2
        lcg_sub
        exact hN _ ⟨_, acc ++ [(i : Int)], gs', _, _, rfl, rfl, rfl, rfl, by rw [callT_len, ht], hs2, by rw [← h1, e1], by rw [← h2, e2]; simp, by rw [List.length_append, List.length_singleton]; omega⟩
      · rw [hp, if_neg Bool.false_ne_true] at e2
        lcg_sub
        exact hN _ ⟨_, acc, gs', _, _, rfl, rfl, rfl, rfl, by rw [callT_len, ht], hs2, by rw [← h1, e1], by rw [← h2, e2]; simp, by omega⟩
set_option maxHeartbeats 4000000 in
theorem v_law_take (ds : List D) (Qd : Bool → D → List D → Prop) (Ed : EdT) (hl : ds.length = 2) (h : slaw_take ds Qd Ed) : m_law_take (endsD [.M, .S] Qd) (startD ["_law_bag_here", "_law_many", "_law_first", "_law_second", "_law_cell", "_law_value"] [.M, .S] ds) := by
  obtain ⟨b, many, rfl, ⟨big, seed, pos, cells, rfl, b1, b2, b3, b4, b5⟩, m1, m2, hq⟩ := h
  unfold m_law_take
  lcg_src
  refine cut (fun Γ => ∃ big seed pos c, Γ = [.io (.lst [.int big, .int seed, .int pos, .lst (cells.map D.int)]), .sh (.int many), .no, .no, c, .no] ∧ 0 ≤ big ∧ 0 ≤ seed ∧ seed < 2147483647 ∧ 0 ≤ pos) (fun N hN => ?_) ?_
  · by_cases hb : big = 0
    · subst hb
      lcg_off
      all_goals refine hN _ ⟨_, _, _, _, rfl, ?_, Int.emod_nonneg _ (by decide), Int.emod_lt_of_pos _ (by decide), by omega⟩
      all_goals omega
    · lcg_sub
      exact hN _ ⟨big, seed, pos, .no, rfl, b1, b2, b3, b4⟩
  · rintro _ ⟨big, seed, pos, c, rfl, b1, b2, b3, b4⟩
    have hB : ∀ x : Int, 0 ≤ x → BagD (.lst [.int x, .int seed, .int pos, .lst (cells.map D.int)]) := fun x hx => ⟨_, _, _, _, rfl, hx, b2, b3, b4, b5⟩
    have hx : 0 ≤ (seed + 1) * 39373 % 1000000007 ∧ (seed + 1) * 39373 % 1000000007 < 1000000007 := ⟨Int.emod_nonneg _ (by decide), Int.emod_lt_of_pos _ (by decide)⟩
    by_cases hb : 0 < big
    · lcg_sub
      exact hq _ _ (Int.emod_nonneg _ (by omega)) (Int.emod_lt_of_pos _ m1) (hB _ (Int.ediv_nonneg b1 (by omega)))
    · lcg_off
      all_goals exact hq _ _ (Int.emod_nonneg _ (by omega)) (Int.emod_lt_of_pos _ m1) (hB _ b1)
set_option maxHeartbeats 8000000 in
theorem v_law_schedule (ds : List D) (Qd : Bool → D → List D → Prop) (Ed : EdT) (hl : ds.length = 3) (h : slaw_schedule ds Qd Ed) : m_law_schedule slaw_take (endsD [.M, .S, .S] Qd) (startD ["_law_bag_here", "_law_size", "_law_most", "_law_few", "_law_found", "_law_k", "_law_many", "_law_way", "_law_begin", "_law_gap"] [.M, .S, .S] ds) := by
  obtain ⟨b, n, m, rfl, hb, n1, n2, m1, m2, hq⟩ := h
  unfold m_law_schedule
  lcg_src
  lcg_sub
  rename_i d1 _ _ _ _ d2 _ _ _ _ d3 _ _ _ _ d4 _ _ _ _
  rename Int => d5
  refine loop_rng d1 (fun i Γ => ∃ (b : D) (c5 c9 : Sl) (l : List Int), Γ = [.io b, .sh (.int n), .sh (.int m), .sh (.lst [.int d4, .int d5]), .ow (.lst (l.map D.int)), c5, .sh (.int d1), .sh (.int d2), .sh (.int d3), c9] ∧ fr c5 = true ∧ fr c9 = true ∧ BagD b ∧ (l.length : Int) = i ∧ 0 ≤ i ∧ Sch n l) ?_ ?_ ?_ _ _ _ (by omega) ⟨bag, .no, .no, [], rfl, rfl, rfl, hbag, rfl, by omega, ⟨by simp⟩⟩
  · intro i Γ _; exact trivial
  · rintro Γ ⟨b, c5, c9, l, rfl, f5, f9, hb, hl, h0, hs⟩
    lcg_sub
    exact hq _ _ (by omega) hs hb
  · rintro i Γ N hi ⟨b, c5, c9, l, rfl, f5, f9, hb, hl, h0, hs⟩ hN
    have hll : (l.map D.int).length < 100000 := by rw [List.length_map]; omega
    have fin : ∀ (b : D) (g : Int), BagD b → 0 ≤ g → g < n → N [.io b, .sh (.int n), .sh (.int m), .sh (.lst [.int d4, .int d5]), .ow (.lst ((l ++ [g]).map D.int)), .sh (.int i), .sh (.int d1), .sh (.int d2), .sh (.int d3), .sh (.int g)] := fun b g hb g0 g1 => hN _ ⟨b, _, _, l ++ [g], rfl, rfl, rfl, hb, by rw [List.length_append, List.length_singleton]; omega, by omega, ⟨fun x hx => (List.mem_append.mp hx).elim (hs.mem x) fun hx => by rw [List.mem_singleton.mp hx]; exact ⟨g0, g1⟩⟩⟩
    have hm : i % 2 = 0 ∨ i % 2 = 1 := by omega
    have h2 : min d2 3 = 0 ∨ min d2 3 = 1 ∨ min d2 3 = 2 ∨ min d2 3 = 3 := by omega
    have md : ∀ x : Int, 0 ≤ x % n ∧ x % n < n := fun x => ⟨Int.emod_nonneg _ (by omega), Int.emod_lt_of_pos _ (by omega)⟩
    lcg_sub
    refine i_ix (atI_ints (l := [d4, d5]) (by simp only [List.length_cons, List.length_nil]; omega)) ?_
    have q5 := ig_mem (l := [d4, d5]) (i := i % 2) (by simp only [List.length_cons, List.length_nil]; omega)
    have q5 : 0 ≤ ig [d4, d5] (i % 2) ∧ ig [d4, d5] (i % 2) < n := by
      simp only [List.mem_cons, List.not_mem_nil, or_false] at q5
      rcases q5 with e | e <;> rw [e] <;> omega
    generalize ig [d4, d5] (i % 2) = e5 at q5
    lcg_sub
    refine i_ix (atI_ints (l := [drawn, e5, (d3 + i) % n, (d3 - i) % n]) (by simp only [List.length_cons, List.length_nil]; omega)) ?_
    have q6 := ig_mem (l := [drawn, e5, (d3 + i) % n, (d3 - i) % n]) (i := min d2 3) (by simp only [List.length_cons, List.length_nil]; omega)
    have q6 : 0 ≤ ig [drawn, e5, (d3 + i) % n, (d3 - i) % n] (min d2 3) ∧ ig [drawn, e5, (d3 + i) % n, (d3 - i) % n] (min d2 3) < n := by
      have := md (d3 + i)
      have := md (d3 - i)
      simp only [List.mem_cons, List.not_mem_nil, or_false] at q6
      rcases q6 with e | e | e | e <;> rw [e] <;> omega
    generalize ig [drawn, e5, (d3 + i) % n, (d3 - i) % n] (min d2 3) = e6 at q6
    have hmx : 0 < max 1 (n - 1) ∧ max 1 (n - 1) < 2 ^ 64 := by omega
    have hw : d2 = 4 ∨ d2 = 5 ∨ (¬ d2 = 4 ∧ ¬ d2 = 5) := by omega
    rcases hw with rfl | rfl | ⟨w4, w5⟩
    · lcg_sub
      exact fin _ _ hbag (md _).1 (md _).2
    · lcg_sub
      exact fin _ _ hbag (by omega) (by omega)
    · lcg_sub
      exact fin _ _ hbag q6.1 q6.2
set_option maxHeartbeats 8000000 in
theorem v_law_ranks (ds : List D) (Qd : Bool → D → List D → Prop) (Ed : EdT) (hl : ds.length = 2) (h : slaw_ranks ds Qd Ed) : m_law_ranks slaw_take (endsD [.M, .S] Qd) (startD ["_law_bag_here", "_law_size", "_law_place", "_law_way", "_law_found", "_law_spot", "_law_few", "_law_great", "_law_rank"] [.M, .S] ds) := by
  obtain ⟨b, n, rfl, hb, n1, n2, hq⟩ := h
  unfold m_law_ranks
  lcg_src
  lcg_sub
  refine loop_rng n (fun i Γ => ∃ b c2 c5 c6 c7 c8 l, Γ = [.io b, .sh (.int n), c2, .sh (.int drawn), .ow (.lst (l.map D.int)), c5, c6, c7, c8] ∧ fr c2 = true ∧ fr c5 = true ∧ fr c6 = true ∧ fr c7 = true ∧ okOwn [c8] [0] = true ∧ BagD b ∧ (l.length : Int) = i ∧ 0 ≤ i ∧ (∀ x ∈ l, rkOk x)) ?_ ?_ ?_ _ _ _ (by omega) ⟨_, _, _, _, _, _, [], rfl, rfl, rfl, rfl, rfl, rfl, hbag, rfl, by omega, by simp⟩
  · intro i Γ _; exact trivial
  · rintro Γ ⟨b, c2, c5, c6, c7, c8, l, rfl, f2, f5, f6, f7, f8, hb, hl, h0, hx⟩
    dsimp only
    refine cut (fun Γ => ∃ (b : D) (c8 : Sl) (l : List Int), Γ = [.io b, .sh (.int n), c2, .sh (.int drawn), .ow (.lst (l.map D.int)), c5, c6, c7, c8] ∧ BagD b ∧ (l.length : Int) = n ∧ (∀ x ∈ l, rkOk x)) (fun M hM => ?_) ?_
    · have stay : ∀ b, BagD b → M [.io b, .sh (.int n), c2, .sh (.int drawn), .ow (.lst (l.map D.int)), c5, c6, c7, c8] := fun b hb => hM _ ⟨b, c8, l, rfl, hb, hl, hx⟩
      by_cases hw : drawn = 0
      · have hw' := hw
        lcg_sub
        refine e_dif (fun hc => ?_) (fun hc => ?_)
        · lcg_sub
          refine comp_fn (mapG fun r => if decide (0 < r) = true then 1 else 0) (by rfl) (by exact f8) _ _ (fun x hx N hN => ?_) ?_ ?_
          · obtain ⟨i, _, rfl⟩ := List.mem_map.mp hx
            lcg_sub
            exact hN
          · rw [List.length_map]; simp only [List.length_nil]; omega
          · rw [List.nil_append, mapG_all]
            lcg_sub
            refine hM _ ⟨_, _, _, rfl, hbag, by rw [List.length_map]; exact hl, fun x hx => ?_⟩
            obtain ⟨r, _, rfl⟩ := List.mem_map.mp hx
            show rkOk (if decide (0 < r) = true then (1 : Int) else 0)
            split <;> decide
        · lcg_sub
          exact stay _ hbag
      · lcg_sub
        exact stay _ hb
    · rintro _ ⟨b, c8, l, rfl, hb, hl, hx⟩
      by_cases hw : 1 < drawn
      · lcg_sub
        · rw [cutD_from hdrawn0 (by rw [List.length_map]; omega), cutD_to hdrawn0 (by rw [List.length_map]; omega), ← List.map_drop, ← List.map_take, ← List.map_append]
          exact hq _ _ (by rw [List.length_append, List.length_drop, List.length_take]; omega) (fun x hm => hx x ((List.mem_append.mp hm).elim List.mem_of_mem_drop List.mem_of_mem_take)) hbag
        · rw [cutD_from hdrawn0 (by rw [List.length_map]; omega), cutD_to hdrawn0 (by rw [List.length_map]; omega), List.length_drop, List.length_take, List.length_map]
          omega
      · lcg_sub
        exact hq _ _ hl hx hb
  · rintro i Γ N hi ⟨b, c2, c5, c6, c7, c8, l, rfl, f2, f5, f6, f7, f8, hb, hl, h0, hx⟩ hN
    have hw := hdrawn0
    have hw1 := hdrawn1
    lcg_sub
    rename_i way _ _ _ _ few _ f0 f1 _
    refine i_ix (atI_ints (l := [few, few * 3 - 4, drawn - 5 * 10 ^ 11, 0 - i, i + few, 10 ^ 39 - i * few]) (by simp only [List.length_cons, List.length_nil]; omega)) ?_
    have hm := ig_mem (l := [few, few * 3 - 4, drawn - 5 * 10 ^ 11, 0 - i, i + few, 10 ^ 39 - i * few]) (i := way) (by simp only [List.length_cons, List.length_nil]; omega)
    have h0' : 0 ≤ i * few := Int.mul_nonneg h0 f0
    have h1' : i * few ≤ 100 * 3 := by
      have := Int.mul_le_mul (show i ≤ 100 by omega) (show few ≤ 3 by omega) f0 (by decide)
      omega
    have hb : rkOk (ig [few, few * 3 - 4, drawn - 5 * 10 ^ 11, 0 - i, i + few, 10 ^ 39 - i * few] way) := by
      simp only [List.mem_cons, List.not_mem_nil, or_false] at hm
      rcases hm with e | e | e | e | e | e <;> rw [e] <;> constructor <;> omega
    generalize ig [few, few * 3 - 4, drawn - 5 * 10 ^ 11, 0 - i, i + few, 10 ^ 39 - i * few] way = g at hb
    lcg_sub
    refine hN _ ⟨_, _, _, _, _, _, l ++ [g], rfl, rfl, f5, rfl, rfl, f8, hbag, by rw [List.length_append, List.length_singleton]; omega, by omega, fun x hm => ?_⟩
    rcases List.mem_append.mp hm with hm | hm
    · exact hx x hm
    · rw [List.mem_singleton] at hm; rw [hm]; exact hb
set_option maxHeartbeats 4000000 in
theorem v_law_drawn_outcome (ds : List D) (Qd : Bool → D → List D → Prop) (Ed : EdT) (hl : ds.length = 3) (h : slaw_drawn_outcome ds Qd Ed) : m_law_drawn_outcome slaw_take (endsD [.M, .S, .S] Qd) (startD ["_law_bag_here", "_law_size", "_law_reach", "_law_person", "_law_left", "_law_found", "_law_total", "_law_lap"] [.M, .S, .S] ds) := by
  obtain ⟨b, n, r, rfl, hb, h1, h2, r1, r2, hq⟩ := h
  unfold m_law_drawn_outcome
  lcg_src
  lcg_sub
  refine loop_rng n (fun i Γ => ∃ (b : D) (k : Nat) (c3 c7 : Sl) (lf fd : List Int) (tot : Int), i = k ∧ Γ = [.io b, .sh (.int n), .sh (.int r), c3, .ow (iL lf), .ow (iL fd), .sh (.int tot), c7] ∧ fr c3 = true ∧ fr c7 = true ∧ BagD b ∧ Drw n r lf fd tot k) ?_ ?_ ?_ _ _ _ (by omega) ⟨_, 0, _, _, iota n, [], 0, rfl, by rw [rgD_iota]; rfl, rfl, rfl, hb, Drw.zero n r r1⟩
  · intro i Γ _; exact trivial
  · rintro Γ ⟨b, k, c3, c7, lf, fd, tot, hk, rfl, f3, f7, hb, W⟩
    have hk : k = n := by omega
    subst hk
    lcg_sub
    exact hq _ _ W.out W.bnd hb
  · rintro i Γ N hi ⟨b, k, c3, c7, lf, fd, tot, rfl, rfl, f3, f7, hb, W⟩ hN
    have hlf := W.lenl
    have hfd := W.lenf
    lcg_sub
    refine e_dif (fun hc => ?_) (fun hc => ?_)
    · lcg_sub
      exact hN _ ⟨_, k + 1, _, _, _, _, _, by omega, rfl, rfl, rfl, hbag, W.step (by omega) hdrawn0 hdrawn1 (.inl ⟨by omega, by omega⟩)⟩
    · lcg_sub
      rename_i d _ e0 e1 _
      exact hN _ ⟨_, k + 1, _, _, _, _, _, by omega, rfl, rfl, rfl, hbag, W.step (by omega) hdrawn0 hdrawn1 (.inr ⟨by omega, by omega⟩)⟩
set_option maxHeartbeats 4000000 in
theorem v_law_some_size (ds : List D) (Qd : Bool → D → List D → Prop) (Ed : EdT) (hl : ds.length = 2) (h : slaw_some_size ds Qd Ed) : m_law_some_size slaw_take (endsD [.M, .S] Qd) (startD ["_law_bag_here", "_law_most"] [.M, .S] ds) := by
  obtain ⟨b, m, rfl, hb, m1, m2, hq⟩ := h
  unfold m_law_some_size
  lcg_src
  lcg_sub
  have hd : drawn = 0 ∨ drawn = 1 := by omega
  rcases hd with rfl | rfl
  · lcg_sub
    exact hq _ _ (by omega) (by omega) hbag
  · lcg_sub
    exact hq _ _ (by omega) (by omega) hbag
set_option maxHeartbeats 4000000 in
theorem v_law_bag (ds : List D) (Qd : Bool → D → List D → Prop) (Ed : EdT) (hl : ds.length = 1) (h : slaw_bag ds Qd Ed) : m_law_bag (endsD [.S] Qd) (startD ["_law_script", "_law_cell"] [.S] ds) := by
  obtain ⟨ns, rfl, hq⟩ := h
  unfold m_law_bag
  lcg_src
  lcg_sub
  refine comp_inv (fun xs acc Γ => Γ = [.sh (.scr (ns.map D.int)), .no] ∧ (∃ ys : List Int, xs = ys.map D.int) ∧ (∃ cs : List Int, acc = cs.map D.int ∧ (∀ c ∈ cs, 0 ≤ c)) ∧ acc.length + xs.length ≤ 63) ?_ ?_ ?_ _ _ _ ⟨rfl, ⟨ns.take 63, ?_⟩, ⟨[], rfl, by simp⟩, ?_⟩
  · rintro xs acc Γ ⟨rfl, -⟩
    exact ⟨trivial, rfl⟩
  · rintro acc Γ ⟨rfl, -, ⟨cs, rfl, hc⟩, -⟩
    lcg_sub
    exact hq _ ⟨0, 1234567891, 0, cs, rfl, by decide, by decide, by decide, by decide, hc⟩
  · rintro x xs acc Γ N ⟨rfl, ⟨ys, hx⟩, ⟨cs, rfl, hc⟩, hlen⟩ hN
    cases ys with
    | nil => cases hx
    | cons y ys =>
      cases hx
      rw [List.length_cons] at hlen
      lcg_sub
      refine hN _ _ ⟨rfl, ⟨ys, rfl⟩, ⟨cs ++ [(y.natAbs : Int)], by rw [List.map_append]; rfl, fun c hm => ?_⟩, ?_⟩
      · rcases List.mem_append.mp hm with hm | hm
        · exact hc c hm
        · rw [List.mem_singleton] at hm; omega
      · simp only [List.length_append, List.length_map, List.length_singleton] at hlen ⊢; omega
  · simp [DL.cutD, HT.sIx, List.map_take, List.length_map, List.take_eq_take_iff]
  · simp [DL.cutD, HT.sIx]
    try omega
set_option maxHeartbeats 8000000 in
theorem v_law {C_RingError C_TooMany : Addr} (ds : List D) (Qd : Bool → D → List D → Prop) (Ed : EdT) (hl : ds.length = 1) (h : slaw ds Qd Ed) : m_law (slaw_right C_RingError C_TooMany) slaw_ended slaw_run slaw_schedule slaw_ranks slaw_drawn_outcome slaw_take slaw_some_size slaw_bag (endsD [.S] Qd) (startD ["_law_script", "_law_bag_here", "_law_turn", "_law_outcome", "_law_size", "_law_way"] [.S] ds) := by
  obtain ⟨ns, rfl, hq⟩ := h
  unfold m_law
  lcg_src
  lcg_sub
  refine loop_rng 3 (fun i Γ => ∃ (b : D) (c2 c3 c4 c5 : Sl), Γ = [.sh (.scr (ns.map D.int)), .ow b, c2, c3, c4, c5] ∧ (fr c2 = true ∧ fr c3 = true ∧ fr c4 = true ∧ fr c5 = true) ∧ BagD b) ?_ ?_ ?_ _ _ _ (by decide) ⟨_, .no, .no, .no, .no, rfl, ⟨rfl, rfl, rfl, rfl⟩, hbag⟩
  · intro i Γ _; exact trivial
  · rintro Γ ⟨b, c2, c3, c4, c5, rfl, -⟩
    lcg_sub
    exact hq
  · rintro i Γ N hi ⟨b, c2, c3, c4, c5, rfl, ⟨f2, f3, f4, f5⟩, hb⟩ hN
    lcg_sub
    rename_i way _ w0 w1 _
    refine i_ix2 hdrawn0 hdrawn1 fun x hx => ?_
    lcg_sub
    have hx2 : x = 3 ∨ x = 8 := by omega
    refine i_ix (atI_ints (l := [0, 1, x, 10 ^ 37, 0]) (by simp only [List.length_cons, List.length_nil]; omega)) ?_
    have hr : 0 ≤ ig [0, 1, x, 10 ^ 37, 0] way ∧ ig [0, 1, x, 10 ^ 37, 0] way ≤ 10 ^ 37 ∧ (way ≠ 3 → ig [0, 1, x, 10 ^ 37, 0] way ≤ 8) := by
      rcases (show way = 0 ∨ way = 1 ∨ way = 2 ∨ way = 3 ∨ way = 4 by omega) with rfl | rfl | rfl | rfl | rfl
      · show (0 : Int) ≤ 0 ∧ (0 : Int) ≤ 10 ^ 37 ∧ (_ → (0 : Int) ≤ 8)
        exact ⟨by decide, by decide, fun _ => by decide⟩
      · show (0 : Int) ≤ 1 ∧ (1 : Int) ≤ 10 ^ 37 ∧ (_ → (1 : Int) ≤ 8)
        exact ⟨by decide, by decide, fun _ => by decide⟩
      · show 0 ≤ x ∧ x ≤ 10 ^ 37 ∧ (_ → x ≤ 8)
        exact ⟨by omega, by omega, fun _ => by omega⟩
      · show (0 : Int) ≤ 10 ^ 37 ∧ (10 : Int) ^ 37 ≤ 10 ^ 37 ∧ (_ → (10 : Int) ^ 37 ≤ 8)
        exact ⟨by decide, by decide, fun z => absurd rfl z⟩
      · show (0 : Int) ≤ 0 ∧ (0 : Int) ≤ 10 ^ 37 ∧ (_ → (0 : Int) ≤ 8)
        exact ⟨by decide, by decide, fun _ => by decide⟩
    generalize ig [0, 1, x, 10 ^ 37, 0] way = reach at hr
    obtain ⟨n, rfl⟩ := Int.eq_ofNat_of_zero_le (show 0 ≤ size by omega)
    have hn : n ≤ 12 := by omega
    have h2 : 2 ≤ n := by omega
    lcg_sub
    refine i_drawn (n := n) (by assumption) (by omega) (by omega) (by omega) (by omega) (fun o b' O ho hb' => ?_)
    have hof : ∀ x ∈ o, x.natAbs < 2 ^ 140 := fun x hx => by
      have h := ho x hx
      have h1 : n * reach.natAbs * n ≤ 12 * 10 ^ 37 * 12 := Nat.mul_le_mul (Nat.mul_le_mul hn (by omega)) hn
      omega
    have hnr : way ≠ 3 → ∀ x ∈ o, x.natAbs ≤ 3000 := fun hw x hx => by
      have h := ho x hx
      have := hr.2.2 hw
      have h1 : n * reach.natAbs * n ≤ 12 * 8 * 12 := Nat.mul_le_mul (Nat.mul_le_mul hn (by omega)) hn
      omega
    clear ho
    lcg_sub
    refine s_join (fun Γ => ∃ (b : D) (o : List Int), BagD b ∧ Out n o ∧ (∀ x ∈ o, x.natAbs < 2 ^ 140) ∧ (way ≠ 3 → ∀ x ∈ o, x.natAbs ≤ 3000) ∧ Γ = [.sh (.scr (ns.map D.int)), .ow b, .sh (.int i), .sh (.tup (o.map D.int)), .sh (.int n), .sh (.int way)]) (fun hc M hM => ?_) (fun hc M hM => ?_) ?_
    · lcg_sub
      have hrl : ranks.length = n := by omega
      refine ⟨n, ranks, gaps, rfl, hrl, h2, by omega, hgaps, by omega, ?_⟩
      lcg_sub
      have OR := Out.run h2 ranks gaps _ hgaps.mem (out_iota n)
      refine i_ended OR (by omega) ?_
      lcg_sub
      have fr1 : ∀ x ∈ invO (runT ranks gaps (iota n)), x.natAbs ≤ 3000 := fun x hx => by
        have h := Far.inv OR (Far.run (n := n) ranks gaps (iota_len _) (far_iota _)) x hx
        have m : n * gaps.length ≤ 12 * 200 := Nat.mul_le_mul (by omega) (by omega)
        omega
      exact hM _ ⟨_, _, by assumption, OR.inv, fun x hx => Nat.lt_of_le_of_lt (fr1 x hx) (by decide), fun _ => fr1, rfl⟩
    · exact hM _ ⟨_, _, by assumption, O, hof, hnr, rfl⟩
    rintro Γ ⟨b, o, hb, O, hof, hnr, rfl⟩
    lcg_sub
    refine i_right (B := 3000) O h2 hn hof (fun hw => ⟨hnr (by simpa using hw), Nat.le_refl _⟩) ?_
    lcg_sub
    exact hN _ ⟨_, _, _, _, _, rfl, ⟨rfl, rfl, rfl, rfl⟩, hb⟩
end LW
namespace LW
open PySem PySem.Spec PyProof.Rows L2 DL
set_option maxHeartbeats 4000000 in
theorem all_mk {l : PySem.W.OpenLaw} {w : World} {K : PySem.W.Frag} {h : Heap} {mg : Str → Option Value} {fa f_end_of f_passed_by f_pass_count f_passes f_law_listed f_law_alike f_law_passes f_law_counted f_law_right f_law_ended f_law_called f_law_standing f_law_run f_law_take f_law_schedule f_law_ranks f_law_drawn_outcome f_law_some_size f_law_bag f_law f_TooMany___init__ C_RingError C_TooMany : Addr} (X : K.In h) (G : h.Ns mainGlobals mg) (hfa : mg "law" = some (.ref fa))
    {od_end_of an_end_of : Option Addr} {sl_end_of : Array (Option Value)} {oc_end_of kV_end_of dc_end_of pm_end_of cd_end_of ct_end_of : Value}
    {od_passed_by an_passed_by : Option Addr} {sl_passed_by : Array (Option Value)} {oc_passed_by kV_passed_by dc_passed_by pm_passed_by cd_passed_by ct_passed_by : Value}
    {od_pass_count an_pass_count : Option Addr} {sl_pass_count : Array (Option Value)} {oc_pass_count kV_pass_count dc_pass_count pm_pass_count cd_pass_count ct_pass_count : Value}
    {od_passes an_passes : Option Addr} {sl_passes : Array (Option Value)} {oc_passes dc_passes pm_passes cd_passes ct_passes : Value}
    {od_law_listed an_law_listed : Option Addr} {sl_law_listed : Array (Option Value)} {oc_law_listed kV_law_listed dc_law_listed pm_law_listed cd_law_listed ct_law_listed : Value}
    {od_law_alike an_law_alike : Option Addr} {sl_law_alike : Array (Option Value)} {oc_law_alike kV_law_alike dc_law_alike pm_law_alike cd_law_alike ct_law_alike : Value}
    {od_law_passes an_law_passes : Option Addr} {sl_law_passes : Array (Option Value)} {oc_law_passes kV_law_passes dc_law_passes pm_law_passes cd_law_passes ct_law_passes : Value}
    {od_law_counted an_law_counted : Option Addr} {sl_law_counted : Array (Option Value)} {oc_law_counted kV_law_counted dc_law_counted pm_law_counted cd_law_counted ct_law_counted : Value}
    {od_law_right an_law_right : Option Addr} {sl_law_right : Array (Option Value)} {oc_law_right kV_law_right dc_law_right pm_law_right cd_law_right ct_law_right : Value}
    {od_law_ended an_law_ended : Option Addr} {sl_law_ended : Array (Option Value)} {oc_law_ended kV_law_ended dc_law_ended pm_law_ended cd_law_ended ct_law_ended : Value}
    {od_law_called an_law_called : Option Addr} {sl_law_called : Array (Option Value)} {oc_law_called kV_law_called dc_law_called pm_law_called cd_law_called ct_law_called : Value}
    {od_law_standing an_law_standing : Option Addr} {sl_law_standing : Array (Option Value)} {oc_law_standing kV_law_standing dc_law_standing pm_law_standing cd_law_standing ct_law_standing : Value}
    {od_law_run an_law_run : Option Addr} {sl_law_run : Array (Option Value)} {oc_law_run kV_law_run dc_law_run pm_law_run cd_law_run ct_law_run : Value}
    {od_law_take an_law_take : Option Addr} {sl_law_take : Array (Option Value)} {oc_law_take kV_law_take dc_law_take pm_law_take cd_law_take ct_law_take : Value}
    {od_law_schedule an_law_schedule : Option Addr} {sl_law_schedule : Array (Option Value)} {oc_law_schedule kV_law_schedule dc_law_schedule pm_law_schedule cd_law_schedule ct_law_schedule : Value}
    {od_law_ranks an_law_ranks : Option Addr} {sl_law_ranks : Array (Option Value)} {oc_law_ranks kV_law_ranks dc_law_ranks pm_law_ranks cd_law_ranks ct_law_ranks : Value}
    {od_law_drawn_outcome an_law_drawn_outcome : Option Addr} {sl_law_drawn_outcome : Array (Option Value)} {oc_law_drawn_outcome kV_law_drawn_outcome dc_law_drawn_outcome pm_law_drawn_outcome cd_law_drawn_outcome ct_law_drawn_outcome : Value}
    {od_law_some_size an_law_some_size : Option Addr} {sl_law_some_size : Array (Option Value)} {oc_law_some_size kV_law_some_size dc_law_some_size pm_law_some_size cd_law_some_size ct_law_some_size : Value}
    {od_law_bag an_law_bag : Option Addr} {sl_law_bag : Array (Option Value)} {oc_law_bag kV_law_bag dc_law_bag pm_law_bag cd_law_bag ct_law_bag : Value}
    {od_law an_law : Option Addr} {sl_law : Array (Option Value)} {oc_law kV_law dc_law pm_law cd_law ct_law : Value}
    {od_TooMany___init__ an_TooMany___init__ : Option Addr} {sl_TooMany___init__ : Array (Option Value)} {oc_TooMany___init__ kV_TooMany___init__ dc_TooMany___init__ pm_TooMany___init__ cd_TooMany___init__ ct_TooMany___init__ : Value}
    {xnm_TooMany xq_TooMany : Str} {xN_TooMany : Addr} {xbs_TooMany xsub_TooMany : List Value} {xsn_TooMany : List Str} {xab_TooMany : Bool} {xcol_TooMany : Option Bool} {xdd_TooMany : Option Addr} {xk0_TooMany xk1_TooMany xk2_TooMany xk3_TooMany xk5_TooMany : Option Value}
    {D_passes : Addr}
    {td0_passes : Tok}
    (g_RingError : PySem.W.nsIn K mainGlobals "RingError" = some (some (.ref C_RingError)))
    (g_TooMany : PySem.W.nsIn K mainGlobals "TooMany" = some (some (.ref C_TooMany)))
    (a_end_of : PySem.W.nsIn K mainGlobals "end_of" = some (some (.ref f_end_of)))
    (l_end_of : K.lookup f_end_of = some ⟨oc_end_of, od_end_of, .func (PySem.W.fnOf "end_of" "end_of" (defArgs s_end_of) (defBody s_end_of) (defScope s_end_of) .none kV_end_of dc_end_of pm_end_of an_end_of cd_end_of ct_end_of), sl_end_of⟩)
    (c_end_of : PySem.W.codeIn K cd_end_of "end_of" = true)
    (k_end_of : PySem.W.keepIn K (.ref f_end_of) = true)
    (a_passed_by : PySem.W.nsIn K mainGlobals "passed_by" = some (some (.ref f_passed_by)))
    (l_passed_by : K.lookup f_passed_by = some ⟨oc_passed_by, od_passed_by, .func (PySem.W.fnOf "passed_by" "passed_by" (defArgs s_passed_by) (defBody s_passed_by) (defScope s_passed_by) .none kV_passed_by dc_passed_by pm_passed_by an_passed_by cd_passed_by ct_passed_by), sl_passed_by⟩)
    (c_passed_by : PySem.W.codeIn K cd_passed_by "passed_by" = true)
    (k_passed_by : PySem.W.keepIn K (.ref f_passed_by) = true)
    (a_pass_count : PySem.W.nsIn K mainGlobals "pass_count" = some (some (.ref f_pass_count)))
    (l_pass_count : K.lookup f_pass_count = some ⟨oc_pass_count, od_pass_count, .func (PySem.W.fnOf "pass_count" "pass_count" (defArgs s_pass_count) (defBody s_pass_count) (defScope s_pass_count) .none kV_pass_count dc_pass_count pm_pass_count an_pass_count cd_pass_count ct_pass_count), sl_pass_count⟩)
    (c_pass_count : PySem.W.codeIn K cd_pass_count "pass_count" = true)
    (k_pass_count : PySem.W.keepIn K (.ref f_pass_count) = true)
    (a_passes : PySem.W.nsIn K mainGlobals "passes" = some (some (.ref f_passes)))
    (l_passes : K.lookup f_passes = some ⟨oc_passes, od_passes, .func (PySem.W.fnOf "passes" "passes" (defArgs s_passes) (defBody s_passes) (defScope s_passes) .none (.ref D_passes) dc_passes pm_passes an_passes cd_passes ct_passes), sl_passes⟩)
    (c_passes : PySem.W.codeIn K cd_passes "passes" = true)
    (k_passes : PySem.W.keepIn K (.ref f_passes) = true)
    (a_law_listed : PySem.W.nsIn K mainGlobals "_law_listed" = some (some (.ref f_law_listed)))
    (l_law_listed : K.lookup f_law_listed = some ⟨oc_law_listed, od_law_listed, .func (PySem.W.fnOf "_law_listed" "_law_listed" (defArgs s_law_listed) (defBody s_law_listed) (defScope s_law_listed) .none kV_law_listed dc_law_listed pm_law_listed an_law_listed cd_law_listed ct_law_listed), sl_law_listed⟩)
    (c_law_listed : PySem.W.codeIn K cd_law_listed "_law_listed" = true)
    (k_law_listed : PySem.W.keepIn K (.ref f_law_listed) = true)
    (a_law_alike : PySem.W.nsIn K mainGlobals "_law_alike" = some (some (.ref f_law_alike)))
    (l_law_alike : K.lookup f_law_alike = some ⟨oc_law_alike, od_law_alike, .func (PySem.W.fnOf "_law_alike" "_law_alike" (defArgs s_law_alike) (defBody s_law_alike) (defScope s_law_alike) .none kV_law_alike dc_law_alike pm_law_alike an_law_alike cd_law_alike ct_law_alike), sl_law_alike⟩)
    (c_law_alike : PySem.W.codeIn K cd_law_alike "_law_alike" = true)
    (k_law_alike : PySem.W.keepIn K (.ref f_law_alike) = true)
    (a_law_passes : PySem.W.nsIn K mainGlobals "_law_passes" = some (some (.ref f_law_passes)))
    (l_law_passes : K.lookup f_law_passes = some ⟨oc_law_passes, od_law_passes, .func (PySem.W.fnOf "_law_passes" "_law_passes" (defArgs s_law_passes) (defBody s_law_passes) (defScope s_law_passes) .none kV_law_passes dc_law_passes pm_law_passes an_law_passes cd_law_passes ct_law_passes), sl_law_passes⟩)
    (c_law_passes : PySem.W.codeIn K cd_law_passes "_law_passes" = true)
    (k_law_passes : PySem.W.keepIn K (.ref f_law_passes) = true)
    (a_law_counted : PySem.W.nsIn K mainGlobals "_law_counted" = some (some (.ref f_law_counted)))
    (l_law_counted : K.lookup f_law_counted = some ⟨oc_law_counted, od_law_counted, .func (PySem.W.fnOf "_law_counted" "_law_counted" (defArgs s_law_counted) (defBody s_law_counted) (defScope s_law_counted) .none kV_law_counted dc_law_counted pm_law_counted an_law_counted cd_law_counted ct_law_counted), sl_law_counted⟩)
    (c_law_counted : PySem.W.codeIn K cd_law_counted "_law_counted" = true)
    (k_law_counted : PySem.W.keepIn K (.ref f_law_counted) = true)
    (a_law_right : PySem.W.nsIn K mainGlobals "_law_right" = some (some (.ref f_law_right)))
    (l_law_right : K.lookup f_law_right = some ⟨oc_law_right, od_law_right, .func (PySem.W.fnOf "_law_right" "_law_right" (defArgs s_law_right) (defBody s_law_right) (defScope s_law_right) .none kV_law_right dc_law_right pm_law_right an_law_right cd_law_right ct_law_right), sl_law_right⟩)
    (c_law_right : PySem.W.codeIn K cd_law_right "_law_right" = true)
    (k_law_right : PySem.W.keepIn K (.ref f_law_right) = true)
    (a_law_ended : PySem.W.nsIn K mainGlobals "_law_ended" = some (some (.ref f_law_ended)))
    (l_law_ended : K.lookup f_law_ended = some ⟨oc_law_ended, od_law_ended, .func (PySem.W.fnOf "_law_ended" "_law_ended" (defArgs s_law_ended) (defBody s_law_ended) (defScope s_law_ended) .none kV_law_ended dc_law_ended pm_law_ended an_law_ended cd_law_ended ct_law_ended), sl_law_ended⟩)
    (c_law_ended : PySem.W.codeIn K cd_law_ended "_law_ended" = true)
    (k_law_ended : PySem.W.keepIn K (.ref f_law_ended) = true)
    (a_law_called : PySem.W.nsIn K mainGlobals "_law_called" = some (some (.ref f_law_called)))
    (l_law_called : K.lookup f_law_called = some ⟨oc_law_called, od_law_called, .func (PySem.W.fnOf "_law_called" "_law_called" (defArgs s_law_called) (defBody s_law_called) (defScope s_law_called) .none kV_law_called dc_law_called pm_law_called an_law_called cd_law_called ct_law_called), sl_law_called⟩)
    (c_law_called : PySem.W.codeIn K cd_law_called "_law_called" = true)
    (k_law_called : PySem.W.keepIn K (.ref f_law_called) = true)
    (a_law_standing : PySem.W.nsIn K mainGlobals "_law_standing" = some (some (.ref f_law_standing)))
    (l_law_standing : K.lookup f_law_standing = some ⟨oc_law_standing, od_law_standing, .func (PySem.W.fnOf "_law_standing" "_law_standing" (defArgs s_law_standing) (defBody s_law_standing) (defScope s_law_standing) .none kV_law_standing dc_law_standing pm_law_standing an_law_standing cd_law_standing ct_law_standing), sl_law_standing⟩)
    (c_law_standing : PySem.W.codeIn K cd_law_standing "_law_standing" = true)
    (k_law_standing : PySem.W.keepIn K (.ref f_law_standing) = true)
    (a_law_run : PySem.W.nsIn K mainGlobals "_law_run" = some (some (.ref f_law_run)))
    (l_law_run : K.lookup f_law_run = some ⟨oc_law_run, od_law_run, .func (PySem.W.fnOf "_law_run" "_law_run" (defArgs s_law_run) (defBody s_law_run) (defScope s_law_run) .none kV_law_run dc_law_run pm_law_run an_law_run cd_law_run ct_law_run), sl_law_run⟩)
    (c_law_run : PySem.W.codeIn K cd_law_run "_law_run" = true)
    (k_law_run : PySem.W.keepIn K (.ref f_law_run) = true)
    (a_law_take : PySem.W.nsIn K mainGlobals "_law_take" = some (some (.ref f_law_take)))
    (l_law_take : K.lookup f_law_take = some ⟨oc_law_take, od_law_take, .func (PySem.W.fnOf "_law_take" "_law_take" (defArgs s_law_take) (defBody s_law_take) (defScope s_law_take) .none kV_law_take dc_law_take pm_law_take an_law_take cd_law_take ct_law_take), sl_law_take⟩)
    (c_law_take : PySem.W.codeIn K cd_law_take "_law_take" = true)
    (k_law_take : PySem.W.keepIn K (.ref f_law_take) = true)
    (a_law_schedule : PySem.W.nsIn K mainGlobals "_law_schedule" = some (some (.ref f_law_schedule)))
    (l_law_schedule : K.lookup f_law_schedule = some ⟨oc_law_schedule, od_law_schedule, .func (PySem.W.fnOf "_law_schedule" "_law_schedule" (defArgs s_law_schedule) (defBody s_law_schedule) (defScope s_law_schedule) .none kV_law_schedule dc_law_schedule pm_law_schedule an_law_schedule cd_law_schedule ct_law_schedule), sl_law_schedule⟩)
    (c_law_schedule : PySem.W.codeIn K cd_law_schedule "_law_schedule" = true)
    (k_law_schedule : PySem.W.keepIn K (.ref f_law_schedule) = true)
    (a_law_ranks : PySem.W.nsIn K mainGlobals "_law_ranks" = some (some (.ref f_law_ranks)))
    (l_law_ranks : K.lookup f_law_ranks = some ⟨oc_law_ranks, od_law_ranks, .func (PySem.W.fnOf "_law_ranks" "_law_ranks" (defArgs s_law_ranks) (defBody s_law_ranks) (defScope s_law_ranks) .none kV_law_ranks dc_law_ranks pm_law_ranks an_law_ranks cd_law_ranks ct_law_ranks), sl_law_ranks⟩)
    (c_law_ranks : PySem.W.codeIn K cd_law_ranks "_law_ranks" = true)
    (k_law_ranks : PySem.W.keepIn K (.ref f_law_ranks) = true)
    (a_law_drawn_outcome : PySem.W.nsIn K mainGlobals "_law_drawn_outcome" = some (some (.ref f_law_drawn_outcome)))
    (l_law_drawn_outcome : K.lookup f_law_drawn_outcome = some ⟨oc_law_drawn_outcome, od_law_drawn_outcome, .func (PySem.W.fnOf "_law_drawn_outcome" "_law_drawn_outcome" (defArgs s_law_drawn_outcome) (defBody s_law_drawn_outcome) (defScope s_law_drawn_outcome) .none kV_law_drawn_outcome dc_law_drawn_outcome pm_law_drawn_outcome an_law_drawn_outcome cd_law_drawn_outcome ct_law_drawn_outcome), sl_law_drawn_outcome⟩)
    (c_law_drawn_outcome : PySem.W.codeIn K cd_law_drawn_outcome "_law_drawn_outcome" = true)
    (k_law_drawn_outcome : PySem.W.keepIn K (.ref f_law_drawn_outcome) = true)
    (a_law_some_size : PySem.W.nsIn K mainGlobals "_law_some_size" = some (some (.ref f_law_some_size)))
    (l_law_some_size : K.lookup f_law_some_size = some ⟨oc_law_some_size, od_law_some_size, .func (PySem.W.fnOf "_law_some_size" "_law_some_size" (defArgs s_law_some_size) (defBody s_law_some_size) (defScope s_law_some_size) .none kV_law_some_size dc_law_some_size pm_law_some_size an_law_some_size cd_law_some_size ct_law_some_size), sl_law_some_size⟩)
    (c_law_some_size : PySem.W.codeIn K cd_law_some_size "_law_some_size" = true)
    (k_law_some_size : PySem.W.keepIn K (.ref f_law_some_size) = true)
    (a_law_bag : PySem.W.nsIn K mainGlobals "_law_bag" = some (some (.ref f_law_bag)))
    (l_law_bag : K.lookup f_law_bag = some ⟨oc_law_bag, od_law_bag, .func (PySem.W.fnOf "_law_bag" "_law_bag" (defArgs s_law_bag) (defBody s_law_bag) (defScope s_law_bag) .none kV_law_bag dc_law_bag pm_law_bag an_law_bag cd_law_bag ct_law_bag), sl_law_bag⟩)
    (c_law_bag : PySem.W.codeIn K cd_law_bag "_law_bag" = true)
    (k_law_bag : PySem.W.keepIn K (.ref f_law_bag) = true)
    (a_law : PySem.W.nsIn K mainGlobals "law" = some (some (.ref f_law)))
    (l_law : K.lookup f_law = some ⟨oc_law, od_law, .func (PySem.W.fnOf "law" "law" (defArgs s_law) (defBody s_law) (defScope s_law) .none kV_law dc_law pm_law an_law cd_law ct_law), sl_law⟩)
    (c_law : PySem.W.codeIn K cd_law "law" = true)
    (k_law : PySem.W.keepIn K (.ref f_law) = true)
    (xi_TooMany : PySem.W.findIn K (.ref C_TooMany) "__init__" = some (some (.ref f_TooMany___init__)))
    (l_TooMany___init__ : K.lookup f_TooMany___init__ = some ⟨oc_TooMany___init__, od_TooMany___init__, .func (PySem.W.fnOf "__init__" "TooMany.__init__" (defArgs s_TooMany___init__) (defBody s_TooMany___init__) (defScope s_TooMany___init__) .none kV_TooMany___init__ dc_TooMany___init__ pm_TooMany___init__ an_TooMany___init__ cd_TooMany___init__ ct_TooMany___init__), sl_TooMany___init__⟩)
    (c_TooMany___init__ : PySem.W.codeIn K cd_TooMany___init__ "TooMany.__init__" = true)
    (k_TooMany___init__ : PySem.W.keepIn K (.ref f_TooMany___init__) = true)
    (xt_TooMany : PySem.W.typeIn K (.ref f_TooMany___init__) = some (.type "function"))
    (xf_TooMany_limit : PySem.W.findIn K (.ref C_TooMany) "limit" = some none)
    (xo_TooMany : K.lookup C_TooMany = some (excClassObj xnm_TooMany xq_TooMany C_TooMany xN_TooMany xbs_TooMany [.ref C_RingError, .type "ValueError", .type "Exception", .type "BaseException", .type "object"] true xsn_TooMany xsub_TooMany xab_TooMany xcol_TooMany xdd_TooMany xk0_TooMany xk1_TooMany xk2_TooMany xk3_TooMany xk5_TooMany "ValueError.__new__"))
    (xs_TooMany : PySem.W.findIn K (.ref C_TooMany) "__setattr__" = some (some (.builtin "object.__setattr__")))
    (xk_TooMany : PySem.W.keepIn K (.ref C_TooMany) = true)
    (xe_RingError : PySem.W.subIn K (.ref C_RingError) (.type "BaseException") = some true)
    (xy_RingError : PySem.W.typeIn K (.ref C_RingError) = some (.type "type"))
    (xd_RingError : PySem.W.hasDictIn K C_RingError = true)
    (xe_TooMany : PySem.W.subIn K (.ref C_TooMany) (.type "BaseException") = some true)
    (xy_TooMany : PySem.W.typeIn K (.ref C_TooMany) = some (.type "type"))
    (xd_TooMany : PySem.W.hasDictIn K C_TooMany = true)
    (xr_RingError : PySem.W.readsIn K C_RingError (.type "type") = true)
    (xg_RingError : PySem.W.specialIn K (.ref C_RingError) "__getattribute__" = some (some (.builtin "type.__getattribute__")))
    (xv_RingError : PySem.W.findCls K (.ref C_RingError) (.type "type") "__init__" = some (.val (.builtin "ValueError.__init__")))
    (xga_TooMany : PySem.W.findIn K (.ref C_TooMany) "__getattribute__" = some (some (.builtin "BaseException.__getattribute__")))
    (xgg_TooMany : PySem.W.findIn K (.ref C_TooMany) "__getattr__" = some none)
    (xhn : PySem.W.specialIn K (.builtin "object.__class__") "__get__" = some (some (.builtin "getset_descriptor.__get__")))
    (xht : PySem.W.takesIn K (.builtin "object.__class__") = some true)
    (xha_TooMany : PySem.W.findIn K (.ref C_TooMany) "__class__" = some (some (.builtin "object.__class__")))
    (xhm_TooMany : PySem.W.mroIn K C_TooMany (.type "object") = some true)
    (xu_TooMany_RingError : PySem.W.subIn K (.ref C_TooMany) (.ref C_RingError) = some true)
    (xw_TooMany_TooMany : PySem.W.kitOne K (.ref C_TooMany) (.ref C_TooMany) = some true)
    (dq0_passes : PySem.W.nsIn K D_passes "limit" = some (some (.int 400 td0_passes)))
    (z_abs : PySem.W.nsIn K mainGlobals "abs" = some none)
    (z_divmod : PySem.W.nsIn K mainGlobals "divmod" = some none)
    (z_enumerate : PySem.W.nsIn K mainGlobals "enumerate" = some none)
    (z_int : PySem.W.nsIn K mainGlobals "int" = some none)
    (z_isinstance : PySem.W.nsIn K mainGlobals "isinstance" = some none)
    (z_len : PySem.W.nsIn K mainGlobals "len" = some none)
    (z_list : PySem.W.nsIn K mainGlobals "list" = some none)
    (z_max : PySem.W.nsIn K mainGlobals "max" = some none)
    (z_min : PySem.W.nsIn K mainGlobals "min" = some none)
    (z_range : PySem.W.nsIn K mainGlobals "range" = some none)
    (z_repr : PySem.W.nsIn K mainGlobals "repr" = some none)
    (z_sorted : PySem.W.nsIn K mainGlobals "sorted" = some none)
    (z_tuple : PySem.W.nsIn K mainGlobals "tuple" = some none)
    : ∃ fd : FuncData, (∀ (s : Shared) (v : Value), BindsTo s fd ⟨[v], []⟩ [("_law_script", v)]) ∧ ∀ base : Heap, K.In base → base.Ns mainGlobals mg → FnG l.prog w K mg base 6 fa fd ["_law_script"] (spD K [.S] slaw) := by
  have e := hfa.symm.trans (PySem.W.mg_of X G a_law)
  cases e
  have F_end_of := fun_mk (st := s_end_of) l_end_of c_end_of k_end_of
  have b_end_of := F_end_of.binds (ps := ["outcome", "place"]) fun _ _ _ _ _ _ us hl => match us, hl with | [_, _], _ => rfl
  have F_passed_by := fun_mk (st := s_passed_by) l_passed_by c_passed_by k_passed_by
  have b_passed_by := F_passed_by.binds (ps := ["outcome", "one"]) fun _ _ _ _ _ _ us hl => match us, hl with | [_, _], _ => rfl
  have F_pass_count := fun_mk (st := s_pass_count) l_pass_count c_pass_count k_pass_count
  have b_pass_count := F_pass_count.binds (ps := ["outcome"]) fun _ _ _ _ _ _ us hl => match us, hl with | [_], _ => rfl
  have F_passes := fun_mk (st := s_passes) l_passes c_passes k_passes
  have d_passes : Dfl K _ ["outcome", "limit"] [.int 400] [.int 400] := ⟨(FunD.binds0 (x := "passes") (qual := "passes") (params := defArgs s_passes) (body := defBody s_passes) (scope := defScope s_passes) (kws := [("limit", .int 400)]) ⟨⟨oc_passes, od_passes, .none, .ref D_passes, dc_passes, pm_passes, an_passes, cd_passes, ct_passes, sl_passes, rfl, l_passes, c_passes, .inl ⟨rfl, rfl⟩, .inr ⟨D_passes, rfl, fun q hq => by (simp only [List.mem_cons, List.not_mem_nil, or_false] at hq; subst hq; exact ⟨_, dq0_passes, ⟨_, rfl⟩⟩)⟩⟩, k_passes⟩ 1 (by decide) rfl fun D doc pm an cdv ct us ks h1 h2 => match us, ks, h1, h2 with | [u0], [w0], _, _ => ⟨_, _, _, _, _, _, rfl, rfl, rfl⟩), fun _ => .cons (.int _) .nil⟩
  have b_passes := kwB_of F_passes (n := 1) (ks := ["limit"]) (ps := ["outcome", "limit"]) fun _ _ _ _ _ _ us ws h1 h2 => match us, ws, h1, h2 with | [u0], [w0], _, _ => rfl
  have F_law_listed := fun_mk (st := s_law_listed) l_law_listed c_law_listed k_law_listed
  have b_law_listed := F_law_listed.binds (ps := ["_law_outcome", "_law_bound"]) fun _ _ _ _ _ _ us hl => match us, hl with | [_, _], _ => rfl
  have F_law_alike := fun_mk (st := s_law_alike) l_law_alike c_law_alike k_law_alike
  have b_law_alike := F_law_alike.binds (ps := ["_law_found", "_law_due"]) fun _ _ _ _ _ _ us hl => match us, hl with | [_, _], _ => rfl
  have F_law_passes := fun_mk (st := s_law_passes) l_law_passes c_law_passes k_law_passes
  have b_law_passes := F_law_passes.binds (ps := ["_law_outcome"]) fun _ _ _ _ _ _ us hl => match us, hl with | [_], _ => rfl
  have F_law_counted := fun_mk (st := s_law_counted) l_law_counted c_law_counted k_law_counted
  have b_law_counted := F_law_counted.binds (ps := ["_law_outcome"]) fun _ _ _ _ _ _ us hl => match us, hl with | [_], _ => rfl
  have F_law_right := fun_mk (st := s_law_right) l_law_right c_law_right k_law_right
  have b_law_right := F_law_right.binds (ps := ["_law_outcome", "_law_few"]) fun _ _ _ _ _ _ us hl => match us, hl with | [_, _], _ => rfl
  have F_law_ended := fun_mk (st := s_law_ended) l_law_ended c_law_ended k_law_ended
  have b_law_ended := F_law_ended.binds (ps := ["_law_there"]) fun _ _ _ _ _ _ us hl => match us, hl with | [_], _ => rfl
  have F_law_called := fun_mk (st := s_law_called) l_law_called c_law_called k_law_called
  have b_law_called := F_law_called.binds (ps := ["_law_ranks_here", "_law_there", "_law_gap"]) fun _ _ _ _ _ _ us hl => match us, hl with | [_, _, _], _ => rfl
  have F_law_standing := fun_mk (st := s_law_standing) l_law_standing c_law_standing k_law_standing
  have b_law_standing := F_law_standing.binds (ps := ["_law_size"]) fun _ _ _ _ _ _ us hl => match us, hl with | [_], _ => rfl
  have F_law_run := fun_mk (st := s_law_run) l_law_run c_law_run k_law_run
  have b_law_run := F_law_run.binds (ps := ["_law_ranks_here", "_law_schedule_here"]) fun _ _ _ _ _ _ us hl => match us, hl with | [_, _], _ => rfl
  have F_law_take := fun_mk (st := s_law_take) l_law_take c_law_take k_law_take
  have b_law_take := F_law_take.binds (ps := ["_law_bag_here", "_law_many"]) fun _ _ _ _ _ _ us hl => match us, hl with | [_, _], _ => rfl
  have F_law_schedule := fun_mk (st := s_law_schedule) l_law_schedule c_law_schedule k_law_schedule
  have b_law_schedule := F_law_schedule.binds (ps := ["_law_bag_here", "_law_size", "_law_most"]) fun _ _ _ _ _ _ us hl => match us, hl with | [_, _, _], _ => rfl
  have F_law_ranks := fun_mk (st := s_law_ranks) l_law_ranks c_law_ranks k_law_ranks
  have b_law_ranks := F_law_ranks.binds (ps := ["_law_bag_here", "_law_size"]) fun _ _ _ _ _ _ us hl => match us, hl with | [_, _], _ => rfl
  have F_law_drawn_outcome := fun_mk (st := s_law_drawn_outcome) l_law_drawn_outcome c_law_drawn_outcome k_law_drawn_outcome
  have b_law_drawn_outcome := F_law_drawn_outcome.binds (ps := ["_law_bag_here", "_law_size", "_law_reach"]) fun _ _ _ _ _ _ us hl => match us, hl with | [_, _, _], _ => rfl
  have F_law_some_size := fun_mk (st := s_law_some_size) l_law_some_size c_law_some_size k_law_some_size
  have b_law_some_size := F_law_some_size.binds (ps := ["_law_bag_here", "_law_most"]) fun _ _ _ _ _ _ us hl => match us, hl with | [_, _], _ => rfl
  have F_law_bag := fun_mk (st := s_law_bag) l_law_bag c_law_bag k_law_bag
  have b_law_bag := F_law_bag.binds (ps := ["_law_script"]) fun _ _ _ _ _ _ us hl => match us, hl with | [_], _ => rfl
  have F_law := fun_mk (st := s_law) l_law c_law k_law
  have b_law := F_law.binds (ps := ["_law_script"]) fun _ _ _ _ _ _ us hl => match us, hl with | [_], _ => rfl
  have F_TooMany___init__ := fun_mk (st := s_TooMany___init__) l_TooMany___init__ c_TooMany___init__ k_TooMany___init__
  have b_TooMany___init__ := F_TooMany___init__.binds (ps := ["self", "limit"]) fun _ _ _ _ _ _ us hl => match us, hl with | [_, _], _ => rfl
  have xc_TooMany : XcK K C_TooMany f_TooMany___init__ ["limit"] := ⟨⟨⟨_, _, _, _, _, _, _, _, _, _, _, _, _, _, _, xo_TooMany, rfl⟩, xs_TooMany, xe_TooMany, xy_TooMany, xk_TooMany⟩, xi_TooMany, xt_TooMany, fun f hf => by (simp only [List.mem_cons, List.not_mem_nil, or_false] at hf; subst hf; exact xf_TooMany_limit)⟩
  have ex_RingError : XEx K C_RingError _ := XEx.cons g_TooMany (PySem.W.exm_ref xe_RingError xd_RingError xy_RingError xu_TooMany_RingError) <| XEx.nil
  have xx_TooMany : ExcC K C_TooMany := ⟨xga_TooMany, xgg_TooMany, xe_TooMany, xd_TooMany, xha_TooMany, xhn, xht, xhm_TooMany⟩
  have is_TooMany : XIs K (.ref C_TooMany) _ := XIs.cons g_TooMany xx_TooMany xw_TooMany_TooMany <| XIs.nil
  have xf_limit : XFd K "limit" _ := XFd.cons g_TooMany ⟨xga_TooMany, xgg_TooMany, xe_TooMany, xd_TooMany⟩ xf_TooMany_limit <| XFd.nil
  refine ⟨PySem.W.fnOf "law" "law" (defArgs s_law) (defBody s_law) (defScope s_law) .none kV_law dc_law pm_law an_law cd_law ct_law, fun s v => .of_eq rfl, fun base _ _ => ?_⟩
  have G_end_of := walk_end_of (P := l.prog) (w := w) (mg := mg) (base := base) F_end_of (PySem.W.mg_none_of X G z_len) (PySem.W.mg_none_of X G z_divmod) (sd := send_of) v_end_of
  have G_passed_by := walk_passed_by (P := l.prog) (w := w) (mg := mg) (base := base) F_passed_by G_end_of (PySem.W.mg_of X G a_end_of) k_end_of b_end_of (PySem.W.mg_none_of X G z_sorted) (PySem.W.mg_none_of X G z_range) (PySem.W.mg_none_of X G z_len) (sd := spassed_by) v_passed_by
  have G_pass_count := walk_pass_count (P := l.prog) (w := w) (mg := mg) (base := base) F_pass_count (PySem.W.mg_none_of X G z_range) (PySem.W.mg_none_of X G z_abs) (PySem.W.mg_none_of X G z_len) (sd := spass_count) v_pass_count
  have G_passes := walk_passes (P := l.prog) (w := w) (mg := mg) (base := base) F_passes G_passed_by (PySem.W.mg_of X G a_passed_by) k_passed_by b_passed_by G_pass_count (PySem.W.mg_of X G a_pass_count) k_pass_count b_pass_count (walk_TooMany___init__ (P := l.prog) (w := w) (mg := mg) (base := base) F_TooMany___init__ (PySem.W.mg_of X G g_RingError) xr_RingError xg_RingError xv_RingError) b_TooMany___init__ xc_TooMany g_TooMany (PySem.W.mg_of X G g_TooMany) (PySem.W.mg_none_of X G z_range) (PySem.W.mg_none_of X G z_len) (sd := (spasses C_TooMany)) v_passes
  have G_law_listed := walk_law_listed (P := l.prog) (w := w) (mg := mg) (base := base) F_law_listed G_passes (PySem.W.mg_of X G a_passes) k_passes b_passes ex_RingError (PySem.W.mg_of X G g_RingError) (PySem.W.mg_of X G g_TooMany) d_passes is_TooMany xf_limit (PySem.W.mg_none_of X G z_isinstance) (sd := (slaw_listed C_RingError C_TooMany)) v_law_listed
  have G_law_alike := walk_law_alike (P := l.prog) (w := w) (mg := mg) (base := base) F_law_alike (PySem.W.mg_none_of X G z_repr) (sd := slaw_alike) v_law_alike
  have G_law_passes := walk_law_passes (P := l.prog) (w := w) (mg := mg) (base := base) F_law_passes (PySem.W.mg_none_of X G z_range) (PySem.W.mg_none_of X G z_max) (PySem.W.mg_none_of X G z_min) (PySem.W.mg_none_of X G z_len) (sd := slaw_passes) v_law_passes
  have G_law_counted := walk_law_counted (P := l.prog) (w := w) (mg := mg) (base := base) F_law_counted (PySem.W.mg_none_of X G z_range) (PySem.W.mg_none_of X G z_int) (PySem.W.mg_none_of X G z_len) (sd := slaw_counted) v_law_counted
  have G_law_right := walk_law_right (P := l.prog) (w := w) (mg := mg) (base := base) F_law_right G_law_listed (PySem.W.mg_of X G a_law_listed) k_law_listed b_law_listed G_law_alike (PySem.W.mg_of X G a_law_alike) k_law_alike b_law_alike G_law_passes (PySem.W.mg_of X G a_law_passes) k_law_passes b_law_passes G_pass_count (PySem.W.mg_of X G a_pass_count) k_pass_count b_pass_count G_law_counted (PySem.W.mg_of X G a_law_counted) k_law_counted b_law_counted (PySem.W.mg_none_of X G z_len) (PySem.W.mg_none_of X G z_max) (PySem.W.mg_none_of X G z_min) (sd := (slaw_right C_RingError C_TooMany)) v_law_right
  have G_law_ended := walk_law_ended (P := l.prog) (w := w) (mg := mg) (base := base) F_law_ended (PySem.W.mg_none_of X G z_tuple) (PySem.W.mg_none_of X G z_range) (PySem.W.mg_none_of X G z_len) (sd := slaw_ended) v_law_ended
  have G_law_called := walk_law_called (P := l.prog) (w := w) (mg := mg) (base := base) F_law_called (PySem.W.mg_none_of X G z_len) (sd := slaw_called) v_law_called
  have G_law_standing := walk_law_standing (P := l.prog) (w := w) (mg := mg) (base := base) F_law_standing (PySem.W.mg_none_of X G z_list) (PySem.W.mg_none_of X G z_range) (sd := slaw_standing) v_law_standing
  have G_law_run := walk_law_run (P := l.prog) (w := w) (mg := mg) (base := base) F_law_run G_law_called (PySem.W.mg_of X G a_law_called) k_law_called b_law_called G_law_standing (PySem.W.mg_of X G a_law_standing) k_law_standing b_law_standing (PySem.W.mg_none_of X G z_enumerate) (PySem.W.mg_none_of X G z_len) (sd := slaw_run) v_law_run
  have G_law_take := walk_law_take (P := l.prog) (w := w) (mg := mg) (base := base) F_law_take (PySem.W.mg_none_of X G z_len) (sd := slaw_take) v_law_take
  have G_law_schedule := walk_law_schedule (P := l.prog) (w := w) (mg := mg) (base := base) F_law_schedule G_law_take (PySem.W.mg_of X G a_law_take) k_law_take b_law_take (PySem.W.mg_none_of X G z_range) (PySem.W.mg_none_of X G z_max) (PySem.W.mg_none_of X G z_abs) (PySem.W.mg_none_of X G z_min) (sd := slaw_schedule) v_law_schedule
  have G_law_ranks := walk_law_ranks (P := l.prog) (w := w) (mg := mg) (base := base) F_law_ranks G_law_take (PySem.W.mg_of X G a_law_take) k_law_take b_law_take (PySem.W.mg_none_of X G z_int) (PySem.W.mg_none_of X G z_range) (sd := slaw_ranks) v_law_ranks
  have G_law_drawn_outcome := walk_law_drawn_outcome (P := l.prog) (w := w) (mg := mg) (base := base) F_law_drawn_outcome G_law_take (PySem.W.mg_of X G a_law_take) k_law_take b_law_take (PySem.W.mg_none_of X G z_tuple) (PySem.W.mg_none_of X G z_range) (PySem.W.mg_none_of X G z_len) (PySem.W.mg_none_of X G z_list) (sd := slaw_drawn_outcome) v_law_drawn_outcome
  have G_law_some_size := walk_law_some_size (P := l.prog) (w := w) (mg := mg) (base := base) F_law_some_size G_law_take (PySem.W.mg_of X G a_law_take) k_law_take b_law_take (PySem.W.mg_none_of X G z_min) (sd := slaw_some_size) v_law_some_size
  have G_law_bag := walk_law_bag (P := l.prog) (w := w) (mg := mg) (base := base) F_law_bag (PySem.W.mg_none_of X G z_abs) (sd := slaw_bag) v_law_bag
  have G_law := walk_law (P := l.prog) (w := w) (mg := mg) (base := base) F_law G_law_right (PySem.W.mg_of X G a_law_right) k_law_right b_law_right G_law_ended (PySem.W.mg_of X G a_law_ended) k_law_ended b_law_ended G_law_run (PySem.W.mg_of X G a_law_run) k_law_run b_law_run G_law_schedule (PySem.W.mg_of X G a_law_schedule) k_law_schedule b_law_schedule G_law_ranks (PySem.W.mg_of X G a_law_ranks) k_law_ranks b_law_ranks G_law_drawn_outcome (PySem.W.mg_of X G a_law_drawn_outcome) k_law_drawn_outcome b_law_drawn_outcome G_law_take (PySem.W.mg_of X G a_law_take) k_law_take b_law_take G_law_some_size (PySem.W.mg_of X G a_law_some_size) k_law_some_size b_law_some_size G_law_bag (PySem.W.mg_of X G a_law_bag) k_law_bag b_law_bag (PySem.W.mg_none_of X G z_range) (sd := slaw) v_law
  exact G_law
theorem law_true : lawSp slaw := fun ns _ => law_fin ns
end LW
open PySem PySem.W PyProof.Rows
set_option maxHeartbeats 0 in
theorem PySem.Challenge.cw_ringcalls_k27_passes_listed_and_counted_holds : PySem.Challenge.rw_ringcalls_k27_passes_listed_and_counted.Holds := by
  w_on; o_law; k_head; (case hw => w_witness2)
  k_fill
  refine DL.walk_g (l := PySem.Challenge.rw_ringcalls_k27_passes_listed_and_counted) (n := 63) (k := 6) (x := "_law_script") (sd := LW.slaw) rfl (by decide) rfl ⟨rfl, by decide, by decide⟩ (fun w h Y => PySem.W.kIn_of Y) ?F LW.law_true
  case F =>
    intro w mg fa h KX G hmg
    refine' LW.all_mk KX G hmg ?g_RingError ?g_TooMany ?a_end_of ?l_end_of ?c_end_of ?k_end_of ?a_passed_by ?l_passed_by ?c_passed_by ?k_passed_by ?a_pass_count ?l_pass_count ?c_pass_count ?k_pass_count ?a_passes ?l_passes ?c_passes ?k_passes ?a_law_listed ?l_law_listed ?c_law_listed ?k_law_listed ?a_law_alike ?l_law_alike ?c_law_alike ?k_law_alike ?a_law_passes ?l_law_passes ?c_law_passes ?k_law_passes ?a_law_counted ?l_law_counted ?c_law_counted ?k_law_counted ?a_law_right ?l_law_right ?c_law_right ?k_law_right ?a_law_ended ?l_law_ended ?c_law_ended ?k_law_ended ?a_law_called ?l_law_called ?c_law_called ?k_law_called ?a_law_standing ?l_law_standing ?c_law_standing ?k_law_standing ?a_law_run ?l_law_run ?c_law_run ?k_law_run ?a_law_take ?l_law_take ?c_law_take ?k_law_take ?a_law_schedule ?l_law_schedule ?c_law_schedule ?k_law_schedule ?a_law_ranks ?l_law_ranks ?c_law_ranks ?k_law_ranks ?a_law_drawn_outcome ?l_law_drawn_outcome ?c_law_drawn_outcome ?k_law_drawn_outcome ?a_law_some_size ?l_law_some_size ?c_law_some_size ?k_law_some_size ?a_law_bag ?l_law_bag ?c_law_bag ?k_law_bag ?a_law ?l_law ?c_law ?k_law ?xi_TooMany ?l_TooMany___init__ ?c_TooMany___init__ ?k_TooMany___init__ ?xt_TooMany ?xf_TooMany_limit ?xo_TooMany ?xs_TooMany ?xk_TooMany ?xe_RingError ?xy_RingError ?xd_RingError ?xe_TooMany ?xy_TooMany ?xd_TooMany ?xr_RingError ?xg_RingError ?xv_RingError ?xga_TooMany ?xgg_TooMany ?xhn ?xht ?xha_TooMany ?xhm_TooMany ?xu_TooMany_RingError ?xw_TooMany_TooMany ?dq0_passes ?z_abs ?z_divmod ?z_enumerate ?z_int ?z_isinstance ?z_len ?z_list ?z_max ?z_min ?z_range ?z_repr ?z_sorted ?z_tuple
    (case g_RingError => k_is); (case g_TooMany => k_is); (case a_end_of => k_is); (case l_end_of => k_is); (case c_end_of => k_is); (case k_end_of => k_is); (case a_passed_by => k_is); (case l_passed_by => k_is); (case c_passed_by => k_is); (case k_passed_by => k_is); (case a_pass_count => k_is); (case l_pass_count => k_is); (case c_pass_count => k_is); (case k_pass_count => k_is); (case a_passes => k_is); (case l_passes => k_is); (case c_passes => k_is); (case k_passes => k_is); (case a_law_listed => k_is); (case l_law_listed => k_is); (case c_law_listed => k_is); (case k_law_listed => k_is); (case a_law_alike => k_is); (case l_law_alike => k_is); (case c_law_alike => k_is); (case k_law_alike => k_is); (case a_law_passes => k_is); (case l_law_passes => k_is); (case c_law_passes => k_is); (case k_law_passes => k_is); (case a_law_counted => k_is); (case l_law_counted => k_is); (case c_law_counted => k_is); (case k_law_counted => k_is); (case a_law_right => k_is); (case l_law_right => k_is); (case c_law_right => k_is); (case k_law_right => k_is); (case a_law_ended => k_is); (case l_law_ended => k_is); (case c_law_ended => k_is); (case k_law_ended => k_is); (case a_law_called => k_is); (case l_law_called => k_is); (case c_law_called => k_is); (case k_law_called => k_is); (case a_law_standing => k_is); (case l_law_standing => k_is); (case c_law_standing => k_is); (case k_law_standing => k_is); (case a_law_run => k_is); (case l_law_run => k_is); (case c_law_run => k_is); (case k_law_run => k_is); (case a_law_take => k_is); (case l_law_take => k_is); (case c_law_take => k_is); (case k_law_take => k_is); (case a_law_schedule => k_is); (case l_law_schedule => k_is); (case c_law_schedule => k_is); (case k_law_schedule => k_is); (case a_law_ranks => k_is); (case l_law_ranks => k_is); (case c_law_ranks => k_is); (case k_law_ranks => k_is); (case a_law_drawn_outcome => k_is); (case l_law_drawn_outcome => k_is); (case c_law_drawn_outcome => k_is); (case k_law_drawn_outcome => k_is); (case a_law_some_size => k_is); (case l_law_some_size => k_is); (case c_law_some_size => k_is); (case k_law_some_size => k_is); (case a_law_bag => k_is); (case l_law_bag => k_is); (case c_law_bag => k_is); (case k_law_bag => k_is); (case a_law => k_is); (case l_law => k_is); (case c_law => k_is); (case k_law => k_is); (case xi_TooMany => k_is); (case l_TooMany___init__ => k_is); (case c_TooMany___init__ => k_is); (case k_TooMany___init__ => k_is); (case xt_TooMany => k_is); (case xf_TooMany_limit => k_is); (case xo_TooMany => k_is); (case xs_TooMany => k_is); (case xk_TooMany => k_is); (case xe_RingError => k_is); (case xy_RingError => k_is); (case xd_RingError => k_is); (case xe_TooMany => k_is); (case xy_TooMany => k_is); (case xd_TooMany => k_is); (case xr_RingError => k_is); (case xg_RingError => k_is); (case xv_RingError => k_is); (case xga_TooMany => k_is); (case xgg_TooMany => k_is); (case xhn => k_is); (case xht => k_is); (case xha_TooMany => k_is); (case xhm_TooMany => k_is); (case xu_TooMany_RingError => k_is); (case xw_TooMany_TooMany => kit_is); (case dq0_passes => k_is); (case z_abs => k_is); (case z_divmod => k_is); (case z_enumerate => k_is); (case z_int => k_is); (case z_isinstance => k_is); (case z_len => k_is); (case z_list => k_is); (case z_max => k_is); (case z_min => k_is); (case z_range => k_is); (case z_repr => k_is); (case z_sorted => k_is); (case z_tuple => k_is)
