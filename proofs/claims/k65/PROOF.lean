import PyProof.Rows.All
import Wide.All
import OpenK.AllK
import Wide.FinOn
import HandS.Base
import HandS.Call
import HandS.List
import HandS.Words
import HandS.Wide
import HandS.IsInst
import HandS.Comp
import PyProof.Rows.RuleB_pow
import HandS.Style
import KE.KTupSum
import HandS.WordsDict
import HandS.SortInts
import HandS.More
import HandS.Conv
import HandS.Text
import HandS.RaiseMore
import HandS.Iter
import HandS.Flow
import HandS.WordsExc
import HandS.Ends
import HandS.Dict
import PyProof.ReprRoads
import HandS.Deep
import KE.GoesEnum
import PyProof.EnumMake
import HandS.Property
import HandS.ClsMeth
import HandS.OwnEq
import HandS.CallRecv
import HandS.CallLocal
import PyProof.InstNe
import HandS.Strs
import HandS.SetFor
import PyProof.Rows.SetFrom
import PyProof.InstSpecial
import KE.KFmtOwn
import HandS.FStr
import HandS.Rev
import HandS.Zip
import HandS.Defaults
import HandS.ExcOwn
import HandS.ExcInit
import HandS.ExcField
import HandS.ExcIs
import HandS.TryOnly
import KE.KExcIs
import HandS.GenList
import PyProof.ForAny
import HandS.NoneIn
import HandS.SortRule
import HandS.TupLe
import KE.DataMinMax
import HandS.ListItems
import HandS.TupMul
import PyProof.Rows.TupDisplay
import PySem.Challenge.RW_ringcalls_k65_whole_no_loss_beats_a_thre
set_option Elab.async false
set_option linter.all false
set_option maxRecDepth 100000
/-! the data layer, part 1: data, what stands for them, slots, what holds between them and the abstract heap -/
namespace DL
open PySem L2
abbrev Fg := PySem.W.Frag
/-- data: values as trees -/
inductive D where
  | non
  | bl (b : Bool)
  | int (i : Int)
  | str (s : Str)
  | lst (ds : List D)
  | scr (ds : List D)
  | tup (ds : List D)
  | dic (kvs : List (Key × D))
  | dit (kvs : List (List Key × D))
  | dkl (kvs : List (Key × D))
  | dtl (kvs : List (List Key × D))
  | pnK (o : Obj) (kvs : List (Key × V))
  | pnT (o : Obj) (kvs : List (List Key × V))
  | obj (C : Addr) (ns : List Str) (ds : List D)
  | cls (C : Addr)
  | xcl (c : Value) (n : Str)
/-- the class that a name of the module stands for -/
def XNm (K : Fg) (n : Str) (c : Addr) : Prop := PySem.W.nsIn K mainGlobals n = some (some (.ref c))
mutual
inductive Rep (K : Fg) (H : Hp) : V → D → Prop
  | non : Rep K H .non .non
  | bl (b : Bool) : Rep K H (.bl b) (.bl b)
  | int (i : Int) : Rep K H (.int i) (.int i)
  | str (x : Str) : Rep K H (.str x) (.str x)
  | cls (C : Addr) : Rep K H (.ref C) (.cls C)
  | xcl {c : Addr} {n : Str} : XNm K n c → Rep K H (.int 0) (.xcl (.ref c) n)
  | lst {a : Addr} {vs : List V} {ds : List D} : H a = some (.lst vs) → Reps K H vs ds → Rep K H (.ref a) (.lst ds)
  | scr {a : Addr} {vs : List V} {ds : List D} : SqL K H a vs → Reps K H vs ds → Rep K H (.ref a) (.scr ds)
  | tup {a : Addr} {vs : List V} {ds : List D} : H a = some (.tup vs) → Reps K H vs ds → Rep K H (.ref a) (.tup ds)
  | dic {a : Addr} {kvs : List (Key × V)} {dks : List (Key × D)} : H a = some (.dK kvs) → RepK K H kvs dks → Rep K H (.ref a) (.dic dks)
  | dit {a : Addr} {kvs : List (List Key × V)} {dks : List (List Key × D)} : H a = some (.dT kvs) → RepT K H kvs dks → Rep K H (.ref a) (.dit dks)
  | dkl {a : Addr} {o : Obj} {kvs : List (Key × V)} {dks : List (Key × D)} : H a = some (.frz o (.dK kvs)) → RepK K H kvs dks → Rep K H (.ref a) (.dkl dks)
  | dtl {a : Addr} {o : Obj} {kvs : List (List Key × V)} {dks : List (List Key × D)} : H a = some (.frz o (.dT kvs)) → RepT K H kvs dks → Rep K H (.ref a) (.dtl dks)
  | pnK {a : Addr} {o : Obj} {kvs : List (Key × V)} : H a = some (.frz o (.dK kvs)) → Rep K H (.ref a) (.pnK o kvs)
  | pnT {a : Addr} {o : Obj} {kvs : List (List Key × V)} : H a = some (.frz o (.dT kvs)) → Rep K H (.ref a) (.pnT o kvs)
  | obj {a C dx : Addr} {fs : List (Str × V)} {ns : List Str} {ds : List D} : H a = some (.ins C dx fs) → fs.map (·.1) = ns → Reps K H (fs.map (·.2)) ds → Rep K H (.ref a) (.obj C ns ds)
inductive Reps (K : Fg) (H : Hp) : List V → List D → Prop
  | nil : Reps K H [] []
  | cons {v : V} {vs : List V} {d : D} {ds : List D} : Rep K H v d → Reps K H vs ds → Reps K H (v :: vs) (d :: ds)
inductive RepK (K : Fg) (H : Hp) : List (Key × V) → List (Key × D) → Prop
  | nil : RepK K H [] []
  | cons {k : Key} {v : V} {d : D} {vs : List (Key × V)} {ds : List (Key × D)} : Rep K H v d → RepK K H vs ds → RepK K H ((k, v) :: vs) ((k, d) :: ds)
inductive RepT (K : Fg) (H : Hp) : List (List Key × V) → List (List Key × D) → Prop
  | nil : RepT K H [] []
  | cons {k : List Key} {v : V} {d : D} {vs : List (List Key × V)} {ds : List (List Key × D)} : Rep K H v d → RepT K H vs ds → RepT K H ((k, v) :: vs) ((k, d) :: ds)
end
section
variable {K : Fg} {H H' : Hp}
mutual
theorem Rep.mono (e : Same H H') : ∀ {v : V} {d : D}, Rep K H v d → Rep K H' v d
  | _, _, .non => .non
  | _, _, .bl b => .bl b
  | _, _, .int i => .int i
  | _, _, .str x => .str x
  | _, _, .cls C => .cls C
  | _, _, .xcl h => .xcl h
  | _, _, .lst h r => .lst (e _ _ h) (Reps.mono e r)
  | _, _, .scr h r => .scr (L2.Same.seq e h) (Reps.mono e r)
  | _, _, .tup h r => .tup (e _ _ h) (Reps.mono e r)
  | _, _, .dic h r => .dic (e _ _ h) (RepK.mono e r)
  | _, _, .dit h r => .dit (e _ _ h) (RepT.mono e r)
  | _, _, .dkl h r => .dkl (e _ _ h) (RepK.mono e r)
  | _, _, .dtl h r => .dtl (e _ _ h) (RepT.mono e r)
  | _, _, .pnK h => .pnK (e _ _ h)
  | _, _, .pnT h => .pnT (e _ _ h)
  | _, _, .obj h n r => .obj (e _ _ h) n (Reps.mono e r)
theorem Reps.mono (e : Same H H') : ∀ {vs : List V} {ds : List D}, Reps K H vs ds → Reps K H' vs ds
  | _, _, .nil => .nil
  | _, _, .cons h r => .cons (Rep.mono e h) (Reps.mono e r)
theorem RepK.mono (e : Same H H') : ∀ {vs : List (Key × V)} {ds : List (Key × D)}, RepK K H vs ds → RepK K H' vs ds
  | _, _, .nil => .nil
  | _, _, .cons h r => .cons (Rep.mono e h) (RepK.mono e r)
theorem RepT.mono (e : Same H H') : ∀ {vs : List (List Key × V)} {ds : List (List Key × D)}, RepT K H vs ds → RepT K H' vs ds
  | _, _, .nil => .nil
  | _, _, .cons h r => .cons (Rep.mono e h) (RepT.mono e r)
end
theorem Reps.length : ∀ {vs : List V} {ds : List D}, Reps K H vs ds → vs.length = ds.length
  | _, _, .nil => rfl
  | _, _, .cons _ r => by rw [List.length_cons, List.length_cons, Reps.length r]
theorem Reps.get : ∀ {vs : List V} {ds : List D} {i : Nat} {d : D}, Reps K H vs ds → ds[i]? = some d → ∃ v, vs[i]? = some v ∧ Rep K H v d
  | _, _, _, _, .nil, e => by simp at e
  | _, _, 0, _, .cons h _, e => by simp at e; subst e; exact ⟨_, rfl, h⟩
  | _, _, i + 1, d, .cons _ r, e => by
    obtain ⟨v, h1, h2⟩ := Reps.get (i := i) (d := d) r (by simpa using e)
    exact ⟨v, by simpa using h1, h2⟩
theorem Reps.getV : ∀ {vs : List V} {ds : List D} {i : Nat} {v : V}, Reps K H vs ds → vs[i]? = some v → ∃ d, ds[i]? = some d ∧ Rep K H v d
  | _, _, _, _, .nil, e => by simp at e
  | _, _, 0, _, .cons h _, e => by simp at e; subst e; exact ⟨_, rfl, h⟩
  | _, _, i + 1, d, .cons _ r, e => by
    obtain ⟨v, h1, h2⟩ := Reps.getV (i := i) (v := d) r (by simpa using e)
    exact ⟨v, by simpa using h1, h2⟩
theorem Reps.append : ∀ {vs ws : List V} {ds es : List D}, Reps K H vs ds → Reps K H ws es → Reps K H (vs ++ ws) (ds ++ es)
  | _, _, _, _, .nil, s => s
  | _, _, _, _, .cons h r, s => .cons h (Reps.append r s)
theorem Reps.take : ∀ {vs : List V} {ds : List D} (n : Nat), Reps K H vs ds → Reps K H (vs.take n) (ds.take n)
  | _, _, 0, _ => .nil
  | _, _, _ + 1, .nil => .nil
  | _, _, n + 1, .cons h r => .cons h (Reps.take n r)
theorem Reps.drop : ∀ {vs : List V} {ds : List D} (n : Nat), Reps K H vs ds → Reps K H (vs.drop n) (ds.drop n)
  | _, _, 0, r => r
  | _, _, _ + 1, .nil => .nil
  | _, _, n + 1, .cons _ r => Reps.drop n r
theorem Reps.set {v : V} {d : D} (h : Rep K H v d) : ∀ {vs : List V} {ds : List D} (n : Nat), Reps K H vs ds → Reps K H (vs.set n v) (ds.set n d)
  | _, _, _, .nil => .nil
  | _, _, 0, .cons _ r => .cons h r
  | _, _, n + 1, .cons g r => .cons g (Reps.set h n r)
theorem Reps.reverse : ∀ {vs : List V} {ds : List D}, Reps K H vs ds → Reps K H vs.reverse ds.reverse
  | _, _, .nil => .nil
  | _, _, .cons h r => by rw [List.reverse_cons, List.reverse_cons]; exact Reps.append (Reps.reverse r) (.cons h .nil)
theorem Reps.dropLast : ∀ {vs : List V} {ds : List D}, Reps K H vs ds → Reps K H vs.dropLast ds.dropLast
  | _, _, .nil => .nil
  | _, _, .cons _ .nil => .nil
  | _, _, .cons h (.cons g r) => .cons h (Reps.dropLast (.cons g r))
theorem Reps.eraseIdx : ∀ {vs : List V} {ds : List D} (i : Nat), Reps K H vs ds → Reps K H (vs.eraseIdx i) (ds.eraseIdx i)
  | _, _, _, .nil => .nil
  | _, _, 0, .cons _ r => r
  | _, _, i + 1, .cons h r => .cons h (Reps.eraseIdx i r)
theorem Reps.rep {vs : List V} {ds : List D} (h : Reps K H vs ds) : ∀ k : Nat, Reps K H (List.replicate k vs).flatten (List.replicate k ds).flatten
  | 0 => .nil
  | k + 1 => by
    rw [List.replicate_succ, List.replicate_succ, List.flatten_cons, List.flatten_cons]
    exact Reps.append h (Reps.rep h k)
theorem Reps.ints : ∀ {ns : List Int} {vs : List V}, Reps K H vs (ns.map D.int) → vs = ns.map V.int
  | [], _, .nil => rfl
  | n :: ns, _, .cons h r => by
    cases h
    rw [Reps.ints r]; rfl
theorem Reps.of_ints : ∀ (ns : List Int), Reps K H (ns.map V.int) (ns.map D.int)
  | [] => .nil
  | n :: ns => .cons (.int n) (Reps.of_ints ns)
theorem Reps.bls : ∀ {ns : List Bool} {vs : List V}, Reps K H vs (ns.map D.bl) → vs = ns.map V.bl
  | [], _, .nil => rfl
  | n :: ns, _, .cons h r => by
    cases h
    rw [Reps.bls r]; rfl
end
/-- the abstract heap without the owned addresses -/
def hide (O : List Addr) (H : Hp) : Hp := fun a => if a ∈ O then none else H a
section
variable {O O' : List Addr} {H H' : Hp} {a p : Addr} {o : HO}
theorem hide_out (h : a ∉ O) : hide O H a = H a := if_neg h
theorem hide_some (h : hide O H a = some o) : a ∉ O ∧ H a = some o := by
  unfold hide at h
  split at h
  · cases h
  · rename_i n; exact ⟨n, h⟩
theorem hide_same : Same (hide O H) H := fun _ _ h => (hide_some h).2
theorem hide_sub (h : ∀ a, a ∈ O → a ∈ O') : Same (hide O' H) (hide O H) := fun b u e => by
  obtain ⟨n, e⟩ := hide_some e
  rw [hide_out fun z => n (h b z)]; exact e
theorem hide_cons_sub : Same (hide (p :: O) H) (hide O H) := hide_sub fun _ h => List.mem_cons_of_mem _ h
theorem hide_new (h : H p = none) : Same (hide O H) (hide O (upd H p o)) := fun b u e => by
  obtain ⟨n, e⟩ := hide_some e
  rw [hide_out n, upd_ne (ne_of_none e h)]; exact e
theorem hide_newO (h : H p = none) : Same (hide O H) (hide (p :: O) (upd H p o)) := fun b u e => by
  obtain ⟨n, e⟩ := hide_some e
  have hb : b ≠ p := ne_of_none e h
  rw [hide_out (fun z => (List.mem_cons.mp z).elim hb n), upd_ne hb]; exact e
theorem hide_mut (h : p ∈ O) : hide O (upd H p o) = hide O H := by
  funext b
  unfold hide
  split
  · rfl
  · rename_i n
    exact upd_ne fun z => n (z ▸ h)
end
/-- the content of an owned object -/
inductive OwnOk (K : Fg) (H : Hp) : HO → D → Prop
  | lst {vs : List V} {ds : List D} : Reps K H vs ds → OwnOk K H (.lst vs) (.lst ds)
  | dic {kvs : List (Key × V)} {dks : List (Key × D)} : RepK K H kvs dks → OwnOk K H (.dK kvs) (.dic dks)
  | dit {kvs : List (List Key × V)} {dks : List (List Key × D)} : RepT K H kvs dks → OwnOk K H (.dT kvs) (.dit dks)
  | obj {C dx : Addr} {fs : List (Str × V)} {ns : List Str} {ds : List D} : fs.map (·.1) = ns → Reps K H (fs.map (·.2)) ds → OwnOk K H (.ins C dx fs) (.obj C ns ds)
theorem OwnOk.mono {K : Fg} {H H' : Hp} {o : HO} {d : D} (e : Same H H') : OwnOk K H o d → OwnOk K H' o d
  | .lst r => .lst (Reps.mono e r)
  | .dic r => .dic (RepK.mono e r)
  | .dit r => .dit (RepT.mono e r)
  | .obj n r => .obj n (Reps.mono e r)
theorem OwnOk.rep {K : Fg} {H : Hp} {o : HO} {d : D} {a : Addr} (h : H a = some o) : OwnOk K H o d → Rep K H (.ref a) d
  | .lst r => .lst h r
  | .dic r => .dic h r
  | .dit r => .dit h r
  | .obj n r => .obj h n r
/-- what a variable holds: nothing that is known; a datum that is shared (and so never changes); an own object; a parameter's object that may change; a parameter's value that is only looked at -/
inductive Sl where
  | no
  | sh (d : D)
  | ow (d : D)
  | io (d : D)
  | bo (d : D)
abbrev Env := List Sl
/-- what stays the same through a def's body -/
structure Ctx where
  K : Fg
  H0 : Hp
  O0 : List Addr
  M : List (Nat × Addr)
  B : List (Nat × V)
  T : List (V × D)
  U : List (Addr × HO)
def SlOk (C : Ctx) (O : List Addr) (σ : St) (H : Hp) (i : Nat) : Sl → Prop
  | .no => True
  | .sh d => ∃ v, σ[i]? = some (some v) ∧ Rep C.K (hide O H) v d
  | .ow d => ∃ l o, σ[i]? = some (some (.ref l)) ∧ l ∈ O ∧ C.H0 l = none ∧ H l = some o ∧ OwnOk C.K (hide O H) o d
  | .io d => ∃ l o, σ[i]? = some (some (.ref l)) ∧ (i, l) ∈ C.M ∧ l ∈ O ∧ H l = some o ∧ OwnOk C.K (hide O H) o d
  | .bo d => ∃ v, σ[i]? = some (some v) ∧ (i, v) ∈ C.B ∧ (Rep C.K (hide O H) v d ∨ ∃ l o, v = .ref l ∧ C.H0 l = some o ∧ (∀ p ∈ C.M, p.2 ≠ l) ∧ OwnOk C.K (hide O H) o d)
/-- slot i may be changed in place, and stands at a -/
def MutAt (Γ : Env) (σ : St) (i : Nat) (a : Addr) : Prop := (∃ d, Γ[i]? = some (.ow d) ∨ Γ[i]? = some (.io d)) ∧ σ[i]? = some (some (.ref a))
structure RelO (C : Ctx) (Γ : Env) (O : List Addr) (σ : St) (H : Hp) : Prop where
  sl : ∀ i s, Γ[i]? = some s → SlOk C O σ H i s
  ds : ∀ i j a, i ≠ j → MutAt Γ σ i a → MutAt Γ σ j a → False
  fr : ∀ a o, C.H0 a = some o → (∀ p ∈ C.M, p.2 ≠ a) → H a = some o
  mm : ∀ p ∈ C.M, σ[p.1]? = some (some (.ref p.2)) ∧ ∃ d, Γ[p.1]? = some (.io d)
  bb : ∀ p ∈ C.B, σ[p.1]? = some (some p.2) ∧ ∃ d, Γ[p.1]? = some (.bo d)
  oo : ∀ a ∈ C.O0, a ∈ O
  al : ∀ a ∈ O, H a ≠ none
  ol : ∀ a ∈ O, a ∈ C.O0 ∨ C.H0 a = none
  o0 : ∀ a ∈ C.O0, C.H0 a ≠ none
  tt : ∀ p ∈ C.T, Rep C.K (hide O H) p.1 p.2
  uu : ∀ q ∈ C.U, H q.1 = some q.2 ∧ q.1 ∈ O ∧ ∀ i, ¬ MutAt Γ σ i q.1
  len : Γ.length = σ.length
section
variable {C : Ctx} {Γ : Env} {O : List Addr} {σ : St} {H H' : Hp} {i : Nat} {d : D} {p : Addr} {o : HO} {v : V}
theorem SlOk.mono {s : Sl} (e : Same (hide O H) (hide O H')) (k : ∀ l o, l ∈ O → H l = some o → H' l = some o) : SlOk C O σ H i s → SlOk C O σ H' i s := by
  cases s with
  | no => exact fun _ => trivial
  | sh d => exact fun ⟨v, h1, h2⟩ => ⟨v, h1, h2.mono e⟩
  | ow d => exact fun ⟨l, o, h1, h2, h3, h4, h5⟩ => ⟨l, o, h1, h2, h3, k l o h2 h4, h5.mono e⟩
  | io d => exact fun ⟨l, o, h1, h2, h3, h4, h5⟩ => ⟨l, o, h1, h2, h3, k l o h3 h4, h5.mono e⟩
  | bo d =>
    intro ⟨v, h1, h2, h3⟩
    refine ⟨v, h1, h2, ?_⟩
    rcases h3 with h3 | ⟨l, o, h3, h4, h5, h6⟩
    · exact .inl (h3.mono e)
    · exact .inr ⟨l, o, h3, h4, h5, h6.mono e⟩
theorem RelO.notin (R : RelO C Γ O σ H) (h : H p = none) : p ∉ O := fun z => R.al p z h
theorem RelO.fresh0 (R : RelO C Γ O σ H) (h : H p = none) : C.H0 p = none := by
  cases e : C.H0 p with
  | none => rfl
  | some o =>
    by_cases hm : ∀ q ∈ C.M, q.2 ≠ p
    · rw [R.fr p o e hm] at h; cases h
    · exfalso
      apply hm
      intro q hq z
      obtain ⟨h1, d, h2⟩ := R.mm q hq
      obtain ⟨l, o, h3, _, h4, h5, _⟩ := R.sl q.1 _ h2
      rw [h1] at h3
      cases h3
      rw [z, h] at h5; cases h5
/-- a new object is laid -/
theorem RelO.alloc (R : RelO C Γ O σ H) (h : H p = none) : RelO C Γ O σ (upd H p o) := by
  have k : ∀ l u, l ∈ O → H l = some u → upd H p o l = some u := fun l u _ e => by rw [upd_ne (ne_of_none e h)]; exact e
  refine ⟨fun i s e => (R.sl i s e).mono (hide_new h) k, R.ds, fun a u e n => ?_, R.mm, R.bb, R.oo, fun a ha => ?_, R.ol, R.o0, fun p hp => (R.tt p hp).mono (hide_new h), fun q hq => ⟨by rw [upd_ne (ne_of_none (R.uu q hq).1 h)]; exact (R.uu q hq).1, (R.uu q hq).2⟩, R.len⟩
  · have := R.fr a u e n
    rw [upd_ne (ne_of_none this h)]; exact this
  · have := R.al a ha
    rw [upd_ne fun z => this (by rw [z]; exact h)]; exact this
/-- .. and owned -/
theorem RelO.allocO (R : RelO C Γ O σ H) (h : H p = none) : RelO C Γ (p :: O) σ (upd H p o) := by
  have e : Same (hide O H) (hide (p :: O) (upd H p o)) := hide_newO h
  have k : ∀ l u, H l = some u → upd H p o l = some u := fun l u e => by rw [upd_ne (ne_of_none e h)]; exact e
  refine ⟨fun i s es => ?_, R.ds, fun a u e n => k a u (R.fr a u e n), R.mm, R.bb, fun a ha => List.mem_cons_of_mem _ (R.oo a ha), fun a ha => ?_, fun a ha => ?_, R.o0, fun p hp => (R.tt p hp).mono e, fun q hq => ⟨k _ _ (R.uu q hq).1, List.mem_cons_of_mem _ (R.uu q hq).2.1, (R.uu q hq).2.2⟩, R.len⟩
  · have q := R.sl i s es
    cases s with
    | no => trivial
    | sh d => obtain ⟨v, h1, h2⟩ := q; exact ⟨v, h1, h2.mono e⟩
    | ow d => obtain ⟨l, u, h1, h2, h3, h4, h5⟩ := q; exact ⟨l, u, h1, List.mem_cons_of_mem _ h2, h3, k l u h4, h5.mono e⟩
    | io d => obtain ⟨l, u, h1, h2, h3, h4, h5⟩ := q; exact ⟨l, u, h1, h2, List.mem_cons_of_mem _ h3, k l u h4, h5.mono e⟩
    | bo d =>
      obtain ⟨v, h1, h2, h3⟩ := q
      refine ⟨v, h1, h2, ?_⟩
      rcases h3 with h3 | ⟨l, u, h3, h4, h5, h6⟩
      · exact .inl (h3.mono e)
      · exact .inr ⟨l, u, h3, h4, h5, h6.mono e⟩
  · rcases List.mem_cons.mp ha with z | z
    · rw [z, upd_same]; intro q; cases q
    · have := R.al a z
      rw [upd_ne fun z => this (by rw [z]; exact h)]; exact this
  · rcases List.mem_cons.mp ha with z | z
    · exact .inr (z ▸ R.fresh0 h)
    · exact R.ol a z
/-- a slot that may be stored to -/
def Free (Γ : Env) (i : Nat) : Prop := (∀ d, Γ[i]? ≠ some (.io d)) ∧ (∀ d, Γ[i]? ≠ some (.bo d))
theorem get_set_same {α : Type} {l : List α} {i : Nat} {x y : α} (h : (l.set i x)[i]? = some y) : x = y := by
  rw [List.getElem?_set_self' ] at h
  cases e : l[i]? with
  | none => rw [e] at h; cases h
  | some z => rw [e] at h; exact Option.some.inj h
theorem get_set_ne {α : Type} {l : List α} {i j : Nat} {x : α} (h : i ≠ j) : (l.set i x)[j]? = l[j]? := List.getElem?_set_ne h
theorem SlOk.other {j : Nat} {s : Sl} {x : Option V} (h : i ≠ j) : SlOk C O σ H j s → SlOk C O (σ.set i x) H j s := by
  have e : (σ.set i x)[j]? = σ[j]? := get_set_ne h
  cases s with
  | no => exact id
  | sh d => unfold SlOk; rw [e]; exact id
  | ow d => unfold SlOk; rw [e]; exact id
  | io d => unfold SlOk; rw [e]; exact id
  | bo d => unfold SlOk; rw [e]; exact id
theorem MutAt.other {j : Nat} {s : Sl} {x : Option V} {a : Addr} (h : i ≠ j) : MutAt (Γ.set i s) (σ.set i x) j a → MutAt Γ σ j a := by
  unfold MutAt
  rw [get_set_ne h, get_set_ne h]; exact id
theorem RelO.set (R : RelO C Γ O σ H) (f : Free Γ i) {s : Sl} {x : Option V} (hs : i < σ.length → SlOk C O (σ.set i x) H i s) (hd : ∀ j a, i ≠ j → MutAt Γ σ j a → MutAt (Γ.set i s) (σ.set i x) i a → False) (hu : ∀ q ∈ C.U, ¬ MutAt (Γ.set i s) (σ.set i x) i q.1) : RelO C (Γ.set i s) O (σ.set i x) H := by
  refine ⟨fun j t e => ?_, fun j k a n h1 h2 => ?_, R.fr, fun p hp => ?_, fun p hp => ?_, R.oo, R.al, R.ol, R.o0, R.tt, fun q hq => ⟨(R.uu q hq).1, (R.uu q hq).2.1, fun j hj => ?_⟩, by rw [List.length_set, List.length_set]; exact R.len⟩
  · by_cases h : i = j
    · subst h
      have hl : i < σ.length := by
        have := (List.getElem?_eq_some_iff.mp e).1
        rw [List.length_set] at this
        rw [← R.len]; exact this
      have := get_set_same e
      subst this
      exact hs hl
    · rw [get_set_ne h] at e
      exact (R.sl j t e).other h
  · by_cases h : i = j
    · subst h
      exact hd k a n (h2.other n) h1
    · by_cases h' : i = k
      · subst h'
        exact hd j a h (h1.other h) h2
      · exact R.ds j k a n (h1.other h) (h2.other h')
  · obtain ⟨h1, d, h2⟩ := R.mm p hp
    have ne : i ≠ p.1 := fun z => f.1 d (by rw [z]; exact h2)
    exact ⟨by rw [get_set_ne ne]; exact h1, d, by rw [get_set_ne ne]; exact h2⟩
  · obtain ⟨h1, d, h2⟩ := R.bb p hp
    have ne : i ≠ p.1 := fun z => f.2 d (by rw [z]; exact h2)
    exact ⟨by rw [get_set_ne ne]; exact h1, d, by rw [get_set_ne ne]; exact h2⟩
  · by_cases h : i = j
    · subst h
      exact hu q hq hj
    · exact (R.uu q hq).2.2 j (hj.other h)
theorem notMut_sh {x : Option V} {a : Addr} : ¬ MutAt (Γ.set i (.sh d)) (σ.set i x) i a := fun h => by
  obtain ⟨⟨d', h | h⟩, _⟩ := h
  · cases get_set_same h
  · cases get_set_same h
theorem notMut_no {x : Option V} {a : Addr} : ¬ MutAt (Γ.set i .no) (σ.set i x) i a := fun h => by
  obtain ⟨⟨d', h | h⟩, _⟩ := h
  · cases get_set_same h
  · cases get_set_same h
theorem RelO.setSh (R : RelO C Γ O σ H) (f : Free Γ i) (r : Rep C.K (hide O H) v d) : RelO C (Γ.set i (.sh d)) O (σ.set i (some v)) H :=
  R.set f (fun hl => ⟨v, List.getElem?_set_self hl, r⟩) (fun j a _ _ h => notMut_sh h) fun _ _ => notMut_sh
theorem RelO.setNo (R : RelO C Γ O σ H) (f : Free Γ i) (x : Option V) : RelO C (Γ.set i .no) O (σ.set i x) H :=
  R.set f (fun _ => trivial) (fun j a _ _ h => notMut_no h) fun _ _ => notMut_no
theorem RelO.mutIn (R : RelO C Γ O σ H) (h : MutAt Γ σ i p) : p ∈ O := by
  obtain ⟨⟨d, h | h⟩, h2⟩ := h
  · obtain ⟨l, o, h3, h4, _⟩ := R.sl i _ h
    rw [h2] at h3; cases h3; exact h4
  · obtain ⟨l, o, h3, _, h4, _⟩ := R.sl i _ h
    rw [h2] at h3; cases h3; exact h4
theorem RelO.setOw (R : RelO C Γ (p :: O) σ H) (f : Free Γ i) (hp : ∀ j, ¬ MutAt Γ σ j p) (hu : ∀ q ∈ C.U, q.1 ≠ p) (h0 : C.H0 p = none) (ho : H p = some o) (r : OwnOk C.K (hide (p :: O) H) o d) : RelO C (Γ.set i (.ow d)) (p :: O) (σ.set i (some (.ref p))) H :=
  R.set f (fun hl => ⟨p, o, List.getElem?_set_self hl, List.mem_cons_self, h0, ho, r⟩) (fun j a n h1 h => by
    obtain ⟨_, h⟩ := h
    have := get_set_same h
    cases this
    exact hp j h1) fun q hq h => by
    obtain ⟨_, h⟩ := h
    have e := get_set_same h
    have e2 := Option.some.inj e
    exact hu q hq (V.ref.inj e2).symm
/-- an own object changes -/
theorem RelO.mut (R : RelO C Γ O σ H) {s s' : Sl} (hi : Γ[i]? = some s) (hs : (s = .ow d ∧ ∃ d', s' = .ow d') ∨ (s = .io d ∧ ∃ d', s' = .io d')) (hp : σ[i]? = some (some (.ref p)))
    (h' : ∀ d', s' = .ow d' ∨ s' = .io d' → OwnOk C.K (hide O H) o d') : RelO C (Γ.set i s') O σ (upd H p o) := by
  have hm : MutAt Γ σ i p := ⟨⟨d, by rcases hs with ⟨e, _⟩ | ⟨e, _⟩ <;> subst e <;> simp [hi]⟩, hp⟩
  have hO : p ∈ O := R.mutIn hm
  have eH : hide O (upd H p o) = hide O H := hide_mut hO
  have hil : i < Γ.length := (List.getElem?_eq_some_iff.mp hi).1
  have kind : ∀ j a, MutAt (Γ.set i s') σ j a → MutAt Γ σ j a := fun j a h => by
    by_cases e : i = j
    · subst e
      obtain ⟨_, h2⟩ := h
      exact ⟨⟨d, by rcases hs with ⟨e, _⟩ | ⟨e, _⟩ <;> subst e <;> simp [hi]⟩, h2⟩
    · obtain ⟨⟨d', h1⟩, h2⟩ := h
      rw [get_set_ne e] at h1
      exact ⟨⟨d', h1⟩, h2⟩
  have notM : ∀ a u, C.H0 a = some u → (∀ q ∈ C.M, q.2 ≠ a) → a ≠ p := fun a u e n z => by
    subst z
    rcases hs with ⟨e1, _⟩ | ⟨e1, _⟩
    · subst e1
      obtain ⟨l, o2, h3, _, h4, _⟩ := R.sl i _ hi
      rw [hp] at h3; cases h3
      rw [e] at h4; cases h4
    · subst e1
      obtain ⟨l, o2, h3, h4, _⟩ := R.sl i _ hi
      rw [hp] at h3; cases h3
      exact n _ h4 rfl
  refine ⟨fun j t e => ?_, fun j k a n h1 h2 => R.ds j k a n (kind _ _ h1) (kind _ _ h2), fun a u e n => by rw [upd_ne (notM a u e n)]; exact R.fr a u e n, fun q hq => ?_, fun q hq => ?_, R.oo, fun a ha => ?_, R.ol, R.o0, fun q hq => by rw [eH]; exact R.tt q hq, fun q hq => ⟨by rw [upd_ne fun z => (R.uu q hq).2.2 i (by rw [z]; exact hm)]; exact (R.uu q hq).1, (R.uu q hq).2.1, fun j hj => (R.uu q hq).2.2 j (kind _ _ hj)⟩, by rw [List.length_set]; exact R.len⟩
  · by_cases h : i = j
    · subst h
      have := get_set_same e
      subst this
      rcases hs with ⟨e1, d', e2⟩ | ⟨e1, d', e2⟩
      · subst e1 e2
        obtain ⟨l, o2, h3, h4, h5, h6, _⟩ := R.sl i _ hi
        rw [hp] at h3; cases h3
        exact ⟨p, o, hp, h4, h5, upd_same, by rw [eH]; exact h' d' (.inl rfl)⟩
      · subst e1 e2
        obtain ⟨l, o2, h3, h4, h5, h6, _⟩ := R.sl i _ hi
        rw [hp] at h3; cases h3
        exact ⟨p, o, hp, h4, h5, upd_same, by rw [eH]; exact h' d' (.inr rfl)⟩
    · rw [get_set_ne h] at e
      have q := R.sl j t e
      have dis : ∀ l, MutAt Γ σ j l → l ≠ p := fun l hl z => R.ds i j p h hm (z ▸ hl)
      cases t with
      | no => trivial
      | sh d2 =>
        obtain ⟨v, h1, h2⟩ := q
        exact ⟨v, h1, by rw [eH]; exact h2⟩
      | ow d2 =>
        obtain ⟨l, u, h1, h2, h3, h4, h5⟩ := q
        exact ⟨l, u, h1, h2, h3, by rw [upd_ne (dis l ⟨⟨d2, .inl e⟩, h1⟩)]; exact h4, by rw [eH]; exact h5⟩
      | io d2 =>
        obtain ⟨l, u, h1, h2, h3, h4, h5⟩ := q
        exact ⟨l, u, h1, h2, h3, by rw [upd_ne (dis l ⟨⟨d2, .inr e⟩, h1⟩)]; exact h4, by rw [eH]; exact h5⟩
      | bo d2 =>
        obtain ⟨v, h1, h2, h3⟩ := q
        refine ⟨v, h1, h2, ?_⟩
        rw [eH]
        exact h3
  · obtain ⟨h1, d2, h2⟩ := R.mm q hq
    refine ⟨h1, ?_⟩
    by_cases h : i = q.1
    · rw [← h] at h2
      rw [hi] at h2
      cases h2
      rcases hs with ⟨e1, _⟩ | ⟨e1, d', e2⟩
      · cases e1
      · exact ⟨d', by rw [← h, e2]; exact List.getElem?_set_self hil⟩
    · exact ⟨d2, by rw [get_set_ne h]; exact h2⟩
  · obtain ⟨h1, d2, h2⟩ := R.bb q hq
    refine ⟨h1, d2, ?_⟩
    have h : i ≠ q.1 := fun z => by
      rw [← z, hi] at h2
      rcases hs with ⟨e1, _⟩ | ⟨e1, _⟩ <;> subst e1 <;> cases h2
    rw [get_set_ne h]; exact h2
  · by_cases z : a = p
    · rw [z, upd_same]; intro q; cases q
    · rw [upd_ne z]; exact R.al a ha
/-- an own object is not changed any more: from now on it is shared -/
theorem RelO.freeze (R : RelO C Γ O σ H) (hi : Γ[i]? = some (.ow d)) : ∃ O', RelO C (Γ.set i (.sh d)) O' σ H ∧ Same (hide O H) (hide O' H) := by
  obtain ⟨l, o, h1, h2, h3, h4, h5⟩ := R.sl i _ hi
  have hm : MutAt Γ σ i l := ⟨⟨d, .inl hi⟩, h1⟩
  have hil : i < Γ.length := (List.getElem?_eq_some_iff.mp hi).1
  have sub : ∀ a, a ∈ O.filter (fun a => decide (a ≠ l)) → a ∈ O := fun a h => (List.mem_filter.mp h).1
  have e : Same (hide O H) (hide (O.filter fun a => decide (a ≠ l)) H) := hide_sub sub
  have lout : l ∉ O.filter (fun a => decide (a ≠ l)) := fun z => by
    have := (List.mem_filter.mp z).2
    simp at this
  have stays : ∀ a, a ∈ O → a ≠ l → a ∈ O.filter (fun a => decide (a ≠ l)) := fun a h n => List.mem_filter.mpr ⟨h, by simpa using n⟩
  have kind : ∀ j a, MutAt (Γ.set i (.sh d)) σ j a → MutAt Γ σ j a := fun j a h => by
    by_cases e : i = j
    · subst e
      obtain ⟨⟨d', h | h⟩, _⟩ := h
      · cases get_set_same h
      · cases get_set_same h
    · obtain ⟨⟨d', h1⟩, h2⟩ := h
      rw [get_set_ne e] at h1
      exact ⟨⟨d', h1⟩, h2⟩
  refine ⟨O.filter fun a => decide (a ≠ l), ⟨fun j t ej => ?_, fun j k a n g1 g2 => ?_, R.fr, fun q hq => ?_, fun q hq => ?_, fun a ha => stays a (R.oo a ha) ?_, fun a ha => R.al a (sub a ha), fun a ha => R.ol a (sub a ha), R.o0, fun q hq => (R.tt q hq).mono e, fun q hq => ⟨(R.uu q hq).1, stays _ (R.uu q hq).2.1 fun z => (R.uu q hq).2.2 i (by rw [z]; exact hm), fun j hj => (R.uu q hq).2.2 j (kind _ _ hj)⟩, by rw [List.length_set]; exact R.len⟩, e⟩
  · by_cases h : i = j
    · subst h
      have := get_set_same ej
      subst this
      refine ⟨_, h1, (h5.mono e).rep ?_⟩
      rw [hide_out lout]; exact h4
    · rw [get_set_ne h] at ej
      have q := R.sl j t ej
      have dis : ∀ a, MutAt Γ σ j a → a ≠ l := fun a ha z => R.ds i j l h hm (z ▸ ha)
      cases t with
      | no => trivial
      | sh d2 => obtain ⟨v, h1, h2⟩ := q; exact ⟨v, h1, h2.mono e⟩
      | ow d2 => obtain ⟨l2, u, h1, h2, h3, h4, h5⟩ := q; exact ⟨l2, u, h1, stays _ h2 (dis l2 ⟨⟨d2, .inl ej⟩, h1⟩), h3, h4, h5.mono e⟩
      | io d2 => obtain ⟨l2, u, h1, h2, h3, h4, h5⟩ := q; exact ⟨l2, u, h1, h2, stays _ h3 (dis l2 ⟨⟨d2, .inr ej⟩, h1⟩), h4, h5.mono e⟩
      | bo d2 =>
        obtain ⟨v, h1, h2, h3⟩ := q
        refine ⟨v, h1, h2, ?_⟩
        rcases h3 with h3 | ⟨l2, u, h3, h4, h5, h6⟩
        · exact .inl (h3.mono e)
        · exact .inr ⟨l2, u, h3, h4, h5, h6.mono e⟩
  · exact R.ds j k a n (kind _ _ g1) (kind _ _ g2)
  · obtain ⟨g1, d2, g2⟩ := R.mm q hq
    have h : i ≠ q.1 := fun z => by rw [← z, hi] at g2; cases g2
    exact ⟨g1, d2, by rw [get_set_ne h]; exact g2⟩
  · obtain ⟨g1, d2, g2⟩ := R.bb q hq
    have h : i ≠ q.1 := fun z => by rw [← z, hi] at g2; cases g2
    exact ⟨g1, d2, by rw [get_set_ne h]; exact g2⟩
  · intro z
    exact R.o0 a ha (z ▸ h3)
end
/-! ### results -/
/-- what an expression gives: a shared datum; a new object that nobody else holds; the object of slot i -/
inductive Res where
  | val (d : D)
  | fr (d : D)
  | pl (i : Nat)
/-- the content of a place -/
def cont : Option Sl → Option D
  | some (.ow d) => some d
  | some (.io d) => some d
  | some (.bo d) => some d
  | _ => none
def rd (Γ : Env) : Res → Option D
  | .val d => some d
  | .fr d => some d
  | .pl i => cont Γ[i]?
/-- a shared datum -/
def dat : Res → Option D
  | .val d => some d
  | .fr d => some d
  | .pl _ => none
def FrOk (C : Ctx) (Γ : Env) (O : List Addr) (σ : St) (H : Hp) (v : V) (d : D) : Prop :=
  ∃ p o, v = .ref p ∧ H p = some o ∧ p ∉ O ∧ C.H0 p = none ∧ OwnOk C.K (hide (p :: O) H) o d ∧ RelO C Γ (p :: O) σ H
def ROk (C : Ctx) (Γ : Env) (O : List Addr) (σ : St) (H : Hp) (v : V) : Res → Prop
  | .val d => RelO C Γ O σ H ∧ Rep C.K (hide O H) v d
  | .fr d => RelO C Γ O σ H ∧ FrOk C Γ O σ H v d
  | .pl i => RelO C Γ O σ H ∧ σ[i]? = some (some v)
/-- a result that waits while other things are done -/
def Pend (K : Fg) (O : List Addr) (σ : St) (H : Hp) (v : V) : Res → Prop
  | .val d => Rep K (hide O H) v d
  | .fr d => Rep K (hide O H) v d
  | .pl i => σ[i]? = some (some v)
/-- a value that is read now -/
def B2 (K : Fg) (O : List Addr) (H : Hp) (v : V) (d : D) : Prop := Rep K (hide O H) v d ∨ ∃ l o, v = .ref l ∧ H l = some o ∧ OwnOk K (hide O H) o d
section
variable {C : Ctx} {Γ : Env} {O : List Addr} {σ : St} {H H' : Hp} {i : Nat} {d : D} {p : Addr} {o : HO} {v : V} {r : Res}
theorem FrOk.rep (h : FrOk C Γ O σ H v d) : Rep C.K (hide O H) v d := by
  obtain ⟨p, o, rfl, h1, h2, h3, h4, _⟩ := h
  refine (h4.mono hide_cons_sub).rep ?_
  rw [hide_out h2]; exact h1
theorem ROk.rel (h : ROk C Γ O σ H v r) : RelO C Γ O σ H := by
  cases r with
  | val d => exact h.1
  | fr d => exact h.1
  | pl i => exact h.1
theorem ROk.pend (h : ROk C Γ O σ H v r) : Pend C.K O σ H v r := by
  cases r with
  | val d => exact h.2
  | fr d => exact h.2.rep
  | pl i => exact h.2
theorem Pend.mono {K : Fg} (e : Same (hide O H) (hide O H')) (h : Pend K O σ H v r) : Pend K O σ H' v r := by
  cases r with
  | val d => exact Rep.mono e h
  | fr d => exact Rep.mono e h
  | pl i => exact h
theorem Pend.dat {K : Fg} (h : Pend K O σ H v r) (e : dat r = some d) : Rep K (hide O H) v d := by
  cases r with
  | val d' => cases e; exact h
  | fr d' => cases e; exact h
  | pl i => cases e
theorem Pend.b2 (R : RelO C Γ O σ H) (h : Pend C.K O σ H v r) (e : rd Γ r = some d) : B2 C.K O H v d := by
  cases r with
  | val d' => cases e; exact .inl h
  | fr d' => cases e; exact .inl h
  | pl i =>
    have e : cont Γ[i]? = some d := e
    cases q : Γ[i]? with
    | none => rw [q] at e; cases e
    | some s =>
      rw [q] at e
      have k := R.sl i s q
      cases s with
      | no => cases e
      | sh d' => cases e
      | ow d' =>
        cases e
        obtain ⟨l, o, h1, h2, h3, h4, h5⟩ := k
        have h : σ[i]? = some (some v) := h
        rw [h] at h1; cases h1
        exact .inr ⟨l, o, rfl, h4, h5⟩
      | io d' =>
        cases e
        obtain ⟨l, o, h1, h2, h3, h4, h5⟩ := k
        have h : σ[i]? = some (some v) := h
        rw [h] at h1; cases h1
        exact .inr ⟨l, o, rfl, h4, h5⟩
      | bo d' =>
        cases e
        obtain ⟨v', h1, h2, h3⟩ := k
        have h : σ[i]? = some (some v) := h
        rw [h] at h1; cases h1
        rcases h3 with h3 | ⟨l, o, h3, h4, h5, h6⟩
        · exact .inl h3
        · exact .inr ⟨l, o, h3, R.fr l o h4 h5, h6⟩
end
end DL
/-! the data layer, part 2: readings of expressions over data -/
namespace DL
open PySem L2
abbrev QE := Res → Env → Prop
abbrev DTE := Env → QE → Prop
abbrev DTT := Env → (Bool → Env → Prop) → Prop
abbrev DTA := Env → (List Res → Env → Prop) → Prop
inductive Pends (K : Fg) (O : List Addr) (σ : St) (H : Hp) : List V → List Res → Prop
  | nil : Pends K O σ H [] []
  | cons {v : V} {vs : List V} {r : Res} {rs : List Res} : Pend K O σ H v r → Pends K O σ H vs rs → Pends K O σ H (v :: vs) (r :: rs)
theorem Pends.mono {K : Fg} {O : List Addr} {σ : St} {H H' : Hp} (e : Same (hide O H) (hide O H')) : ∀ {vs : List V} {rs : List Res}, Pends K O σ H vs rs → Pends K O σ H' vs rs
  | _, _, .nil => .nil
  | _, _, .cons h t => .cons (h.mono e) (Pends.mono e t)
/-- what was shared stays; a new object is new -/
def SE (O : List Addr) (H H' : Hp) (v : V) (r : Res) : Prop := Same (hide O H) (hide O H') ∧ ∀ d p, r = .fr d → v = .ref p → Same (hide O H) (hide (p :: O) H')
theorem SE.val {O : List Addr} {H H' : Hp} {v : V} {d : D} (h : Same (hide O H) (hide O H')) : SE O H H' v (.val d) := ⟨h, fun _ _ e => nomatch e⟩
theorem SE.pl {O : List Addr} {H H' : Hp} {v : V} {i : Nat} (h : Same (hide O H) (hide O H')) : SE O H H' v (.pl i) := ⟨h, fun _ _ e => nomatch e⟩
theorem SE.fr {O : List Addr} {H H' : Hp} {p : Addr} {d : D} (h : Same (hide O H) (hide (p :: O) H')) : SE O H H' (.ref p) (.fr d) := ⟨L2.Same.trans h hide_cons_sub, fun _ _ _ e => by cases e; exact h⟩
theorem SE.after {O : List Addr} {H H1 H' : Hp} {v : V} {r : Res} (h : Same (hide O H) (hide O H1)) (e : SE O H1 H' v r) : SE O H H' v r := ⟨L2.Same.trans h e.1, fun d p e1 e2 => L2.Same.trans h (e.2 d p e1 e2)⟩
/-- e reads as t over slots and heap, and as m over data -/
def SimE (C : Ctx) (t : TE) (m : DTE) : Prop := ∀ (Γ : Env) (O : List Addr) (σ : St) (H : Hp) (Qd : QE) (Q : VK), RelO C Γ O σ H → m Γ Qd →
  (∀ r Γ' v H', ROk C Γ' O σ H' v r → SE O H H' v r → Qd r Γ' → Q v H') → t σ H Q
def SimT (C : Ctx) (t : TT) (m : DTT) : Prop := ∀ (Γ : Env) (O : List Addr) (σ : St) (H : Hp) (Qd : Bool → Env → Prop) (Q : Bool → Hp → Prop), RelO C Γ O σ H → m Γ Qd →
  (∀ b Γ' H', RelO C Γ' O σ H' → Same (hide O H) (hide O H') → Qd b Γ' → Q b H') → t σ H Q
def SimA (C : Ctx) (t : TA) (m : DTA) : Prop := ∀ (Γ : Env) (O : List Addr) (σ : St) (H : Hp) (Qd : List Res → Env → Prop) (Q : List V → Hp → Prop), RelO C Γ O σ H → m Γ Qd →
  (∀ rs Γ' vs H', RelO C Γ' O σ H' → Pends C.K O σ H' vs rs → Same (hide O H) (hide O H') → Qd rs Γ' → Q vs H') → t σ H Q
structure DE (X : Cx) (C : Ctx) (e : Expr) (t : TE) (m : DTE) : Prop where
  pe : PE X e t
  sim : SimE C t m
structure DT (X : Cx) (C : Ctx) (e : Expr) (t : TT) (m : DTT) : Prop where
  pt : PT X e t
  sim : SimT C t m
structure DW (X : Cx) (C : Ctx) (e : Expr) (t : TT) (m : DTT) : Prop where
  pw : PW X e t
  sim : SimT C t m
structure DA (X : Cx) (C : Ctx) (es : List Expr) (t : TA) (m : DTA) : Prop where
  pa : PA X es t
  sim : SimA C t m
/-- what an operation on values may hand back -/
structure Outs (K : Fg) (O : List Addr) (H : Hp) (Qd : Res → Prop) (Q : VK) : Prop where
  val : ∀ v d, Rep K (hide O H) v d → Qd (.val d) → Q v H
  new : ∀ p o d, H p = none → OwnOk K (hide O H) o d → Qd (.fr d) → Q (.ref p) (upd H p o)
  newT : ∀ p vs ds, H p = none → Reps K (hide O H) vs ds → Qd (.val (.tup ds)) → Q (.ref p) (upd H p (.tup vs))
section
variable {C : Ctx} {Γ Γ' : Env} {O : List Addr} {σ : St} {H H1 H' : Hp} {Qd : QE} {Q : VK}
theorem SameH.trans {a b c : Hp} (h : Same a b) (k : Same b c) : Same a c := L2.Same.trans h k
theorem outs_of (R : RelO C Γ' O σ H1) (e : Same (hide O H) (hide O H1)) (k : ∀ r Γ' v H', ROk C Γ' O σ H' v r → SE O H H' v r → Qd r Γ' → Q v H') : Outs C.K O H1 (fun r => Qd r Γ') Q where
  val := fun v d r q => k (.val d) Γ' v H1 ⟨R, r⟩ (.val e) q
  new := fun p o d hp ho q => k (.fr d) Γ' (.ref p) (upd H1 p o) ⟨R.alloc hp, p, o, rfl, upd_same, R.notin hp, R.fresh0 hp, ho.mono (hide_newO hp), R.allocO hp⟩ (.fr (L2.Same.trans e (hide_newO hp))) q
  newT := fun p vs ds hp hr q => k (.val (.tup ds)) Γ' (.ref p) (upd H1 p (.tup vs)) ⟨R.alloc hp, .tup (by rw [hide_out (R.notin hp)]; exact upd_same) (hr.mono (hide_new hp))⟩ (.val (L2.Same.trans e (hide_new hp))) q
end
section
variable {K : Fg} {O : List Addr} {H : Hp} {x : V}
theorem B2.int {i : Int} (h : B2 K O H x (.int i)) : x = .int i := by
  rcases h with h | ⟨l, o, _, _, h⟩
  · cases h; rfl
  · cases h
theorem B2.bl {i : Bool} (h : B2 K O H x (.bl i)) : x = .bl i := by
  rcases h with h | ⟨l, o, _, _, h⟩
  · cases h; rfl
  · cases h
theorem B2.str {i : Str} (h : B2 K O H x (.str i)) : x = .str i := by
  rcases h with h | ⟨l, o, _, _, h⟩
  · cases h; rfl
  · cases h
theorem B2.non (h : B2 K O H x .non) : x = .non := by
  rcases h with h | ⟨l, o, _, _, h⟩
  · cases h; rfl
  · cases h
theorem B2.lst {ds : List D} (h : B2 K O H x (.lst ds)) : ∃ a vs, x = .ref a ∧ H a = some (.lst vs) ∧ Reps K (hide O H) vs ds := by
  rcases h with h | ⟨l, o, rfl, h1, h⟩
  · cases h with | lst h r => exact ⟨_, _, rfl, hide_same _ _ h, r⟩
  · cases h with | lst r => exact ⟨l, _, rfl, h1, r⟩
theorem B2.scr {ds : List D} (h : B2 K O H x (.scr ds)) : ∃ a vs, x = .ref a ∧ SqL K H a vs ∧ Reps K (hide O H) vs ds := by
  rcases h with h | ⟨l, o, rfl, h1, h⟩
  · cases h with | scr h r => exact ⟨_, _, rfl, hide_same.seq h, r⟩
  · cases h
theorem B2.tup {ds : List D} (h : B2 K O H x (.tup ds)) : ∃ a vs, x = .ref a ∧ H a = some (.tup vs) ∧ Reps K (hide O H) vs ds := by
  rcases h with h | ⟨l, o, rfl, h1, h⟩
  · cases h with | tup h r => exact ⟨_, _, rfl, hide_same _ _ h, r⟩
  · cases h
theorem B2.dic {ds : List (Key × D)} (h : B2 K O H x (.dic ds)) : ∃ a vs, x = .ref a ∧ H a = some (.dK vs) ∧ RepK K (hide O H) vs ds := by
  rcases h with h | ⟨l, o, rfl, h1, h⟩
  · cases h with | dic h r => exact ⟨_, _, rfl, hide_same _ _ h, r⟩
  · cases h with | dic r => exact ⟨l, _, rfl, h1, r⟩
theorem B2.dit {ds : List (List Key × D)} (h : B2 K O H x (.dit ds)) : ∃ a vs, x = .ref a ∧ H a = some (.dT vs) ∧ RepT K (hide O H) vs ds := by
  rcases h with h | ⟨l, o, rfl, h1, h⟩
  · cases h with | dit h r => exact ⟨_, _, rfl, hide_same _ _ h, r⟩
  · cases h with | dit r => exact ⟨l, _, rfl, h1, r⟩
theorem B2.obj {c : Addr} {ns : List Str} {ds : List D} (h : B2 K O H x (.obj c ns ds)) : ∃ a dx fs, x = .ref a ∧ H a = some (.ins c dx fs) ∧ fs.map (·.1) = ns ∧ Reps K (hide O H) (fs.map (·.2)) ds := by
  rcases h with h | ⟨l, o, rfl, h1, h⟩
  · cases h with | obj h n r => exact ⟨_, _, _, rfl, hide_same _ _ h, n, r⟩
  · cases h with | obj n r => exact ⟨_, _, _, rfl, h1, n, r⟩
end
/-! ### the readings over data -/
def mVar (i : Nat) : DTE := fun Γ Q => match Γ[i]? with
  | some (.sh d) => Q (.val d) Γ
  | some (.ow _) => Q (.pl i) Γ
  | some (.io _) => Q (.pl i) Γ
  | some (.bo _) => Q (.pl i) Γ
  | _ => False
def mC (d : D) : DTE := fun Γ Q => Q (.val d) Γ
def mOp (f : D → D → (Res → Prop) → Prop) (ma mb : DTE) : DTE := fun Γ Q => ma Γ fun ra Γ1 => mb Γ1 fun rb Γ2 => ∃ a b, rd Γ2 ra = some a ∧ rd Γ2 rb = some b ∧ f a b fun r => Q r Γ2
def mUn (f : D → (Res → Prop) → Prop) (ma : DTE) : DTE := fun Γ Q => ma Γ fun ra Γ1 => ∃ a, rd Γ1 ra = some a ∧ f a fun r => Q r Γ1
def mTest (ma : DTE) : DTT := fun Γ Q => ma Γ fun r Γ1 => ∃ b, r = .val (.bl b) ∧ Q b Γ1
def mAndV (ma mb : DTE) : DTE := fun Γ Q => ma Γ fun r Γ1 => ∃ b, r = .val (.bl b) ∧ if b = true then mb Γ1 Q else Q (.val (.bl false)) Γ1
def mOrV (ma mb : DTE) : DTE := fun Γ Q => ma Γ fun r Γ1 => ∃ b, r = .val (.bl b) ∧ if b = true then Q (.val (.bl true)) Γ1 else mb Γ1 Q
def mNotV (ma : DTE) : DTE := fun Γ Q => ma Γ fun r Γ1 => ∃ b, r = .val (.bl b) ∧ Q (.val (.bl (!b))) Γ1
def mAnd (ma mb : DTT) : DTT := fun Γ Q => ma Γ fun b Γ1 => if b = true then mb Γ1 Q else Q false Γ1
def mOr (ma mb : DTT) : DTT := fun Γ Q => ma Γ fun b Γ1 => if b = true then Q true Γ1 else mb Γ1 Q
def mNot (ma : DTT) : DTT := fun Γ Q => ma Γ fun b Γ1 => Q (!b) Γ1
def mIf (mt : DTT) (ma mb : DTE) : DTE := fun Γ Q => mt Γ fun b Γ1 => if b = true then ma Γ1 Q else mb Γ1 Q
def mNil : DTA := fun Γ Q => Q [] Γ
def mCons (ma : DTE) (mr : DTA) : DTA := fun Γ Q => ma Γ fun r Γ1 => mr Γ1 fun rs Γ2 => Q (r :: rs) Γ2
def dats : List Res → Option (List D)
  | [] => some []
  | r :: rs => match dat r, dats rs with
    | some d, some ds => some (d :: ds)
    | _, _ => none
def rds (Γ : Env) : List Res → Option (List D)
  | [] => some []
  | r :: rs => match rd Γ r, rds Γ rs with
    | some d, some ds => some (d :: ds)
    | _, _ => none
def mTup (ma : DTA) : DTE := fun Γ Q => ma Γ fun rs Γ1 => ∃ ds, dats rs = some ds ∧ ds.length ≤ 100000 ∧ Q (.val (.tup ds)) Γ1
def mLst (ma : DTA) : DTE := fun Γ Q => ma Γ fun rs Γ1 => ∃ ds, dats rs = some ds ∧ ds.length ≤ 100000 ∧ Q (.fr (.lst ds)) Γ1
/-- a call of a built-in, by values -/
def mCB (f : List D → (Res → Prop) → Prop) (ma : DTA) : DTE := fun Γ Q => ma Γ fun rs Γ1 => ∃ ds, rds Γ1 rs = some ds ∧ f ds fun r => Q r Γ1
section
variable {X : Cx} {C : Ctx} {ta tb tc : TE} {ma mb mc : DTE} {a b c e : Expr} {pos : Pos} {tA tB' : TT} {mA mB : DTT}
theorem dats_ok {K : Fg} {O : List Addr} {σ : St} {H : Hp} : ∀ {vs : List V} {rs : List Res} {ds : List D}, Pends K O σ H vs rs → dats rs = some ds → Reps K (hide O H) vs ds
  | _, _, _, .nil, e => by cases e; exact .nil
  | _, _, ds, .cons (r := r) (rs := rs) h t, e => by
    unfold dats at e
    split at e
    · rename_i d ds' e1 e2
      cases e
      exact .cons (h.dat e1) (dats_ok t e2)
    · cases e
inductive B2s (K : Fg) (O : List Addr) (H : Hp) : List V → List D → Prop
  | nil : B2s K O H [] []
  | cons {v : V} {vs : List V} {d : D} {ds : List D} : B2 K O H v d → B2s K O H vs ds → B2s K O H (v :: vs) (d :: ds)
theorem rds_ok {Γ : Env} {O : List Addr} {σ : St} {H : Hp} (R : RelO C Γ O σ H) : ∀ {vs : List V} {rs : List Res} {ds : List D}, Pends C.K O σ H vs rs → rds Γ rs = some ds → B2s C.K O H vs ds
  | _, _, _, .nil, e => by cases e; exact .nil
  | _, _, ds, .cons (r := r) (rs := rs) h t, e => by
    unfold rds at e
    split at e
    · rename_i d ds' e1 e2
      cases e
      exact .cons (h.b2 R e1) (rds_ok R t e2)
    · cases e
theorem sim_var (i : Nat) : SimE C (tVar i) (mVar i) := fun Γ O σ H Qd Q R h k => by
  unfold mVar at h
  cases e : Γ[i]? with
  | none => rw [e] at h; exact h.elim
  | some s =>
    rw [e] at h
    have q := R.sl i s e
    cases s with
    | no => exact h.elim
    | sh d =>
      obtain ⟨v, h1, h2⟩ := q
      exact ⟨v, h1, k (.val d) _ _ _ ⟨R, h2⟩ (.val (L2.Same.refl _)) h⟩
    | ow d =>
      obtain ⟨l, o, h1, _⟩ := q
      exact ⟨_, h1, k (.pl i) _ _ _ ⟨R, h1⟩ (.pl (L2.Same.refl _)) h⟩
    | io d =>
      obtain ⟨l, o, h1, _⟩ := q
      exact ⟨_, h1, k (.pl i) _ _ _ ⟨R, h1⟩ (.pl (L2.Same.refl _)) h⟩
    | bo d =>
      obtain ⟨v, h1, _⟩ := q
      exact ⟨_, h1, k (.pl i) _ _ _ ⟨R, h1⟩ (.pl (L2.Same.refl _)) h⟩
theorem de_var (i : Nat) {x : Str} (h : PE X (.Name x pos) (tVar i)) : DE X C (.Name x pos) (tVar i) (mVar i) := ⟨h, sim_var i⟩
theorem sim_c {v : V} {d : D} (h : ∀ (K : Fg) (H : Hp), Rep K H v d) : SimE C (tC v) (mC d) := fun Γ O σ H Qd Q R q k => k (.val d) _ _ _ ⟨R, h _ _⟩ (.val (L2.Same.refl _)) q
theorem de_int {i : Int} {j} : DE X C (.Constant (.int i) j pos) (tC (.int i)) (mC (.int i)) := ⟨pe_int, sim_c fun _ _ => .int i⟩
theorem de_bl {i : Bool} {j} : DE X C (.Constant (.bool i) j pos) (tC (.bl i)) (mC (.bl i)) := ⟨pe_bl, sim_c fun _ _ => .bl i⟩
theorem de_non {j} : DE X C (.Constant .none j pos) (tC .non) (mC .non) := ⟨pe_non, sim_c fun _ _ => .non⟩
theorem de_str {x : Str} {j} : DE X C (.Constant (.str x) j pos) (tC (.str x)) (mC (.str x)) := ⟨pe_str, sim_c fun _ _ => .str x⟩
/-- a module's constant that is an int, a text -/
theorem de_globI {x : Str} {i : Int} (h : PE X (.Name x pos) (tC (.int i))) : DE X C (.Name x pos) (tC (.int i)) (mC (.int i)) := ⟨h, sim_c fun _ _ => .int i⟩
def SimR2 (K : Fg) (r : R2) (f : D → D → (Res → Prop) → Prop) : Prop := ∀ (O : List Addr) (H : Hp) (x y : V) (a b : D) (Qd : Res → Prop) (Q : VK), B2 K O H x a → B2 K O H y b → f a b Qd → Outs K O H Qd Q → r x y H Q
def SimR1 (K : Fg) (r : V → Hp → VK → Prop) (f : D → (Res → Prop) → Prop) : Prop := ∀ (O : List Addr) (H : Hp) (x : V) (a : D) (Qd : Res → Prop) (Q : VK), B2 K O H x a → f a Qd → Outs K O H Qd Q → r x H Q
def SimRC (K : Fg) (r : List V → Hp → VK → Prop) (f : List D → (Res → Prop) → Prop) : Prop := ∀ (O : List Addr) (H : Hp) (vs : List V) (ds : List D) (Qd : Res → Prop) (Q : VK), B2s K O H vs ds → f ds Qd → Outs K O H Qd Q → r vs H Q
theorem sim_op {r : R2} {f : D → D → (Res → Prop) → Prop} (ha : SimE C ta ma) (hb : SimE C tb mb) (hr : SimR2 C.K r f) : SimE C (tOp r ta tb) (mOp f ma mb) := fun Γ O σ H Qd Q R h k => by
  refine ha Γ O σ H _ _ R h fun ra Γ1 x H1 R1 e1 q1 => ?_
  refine hb Γ1 O σ H1 _ _ R1.rel q1 fun rb Γ2 y H2 R2 e2 q2 => ?_
  obtain ⟨a, b, h1, h2, q⟩ := q2
  exact hr O H2 x y a b _ _ ((R1.pend.mono e2.1).b2 R2.rel h1) (R2.pend.b2 R2.rel h2) q (outs_of R2.rel (L2.Same.trans e1.1 e2.1) k)
theorem sim_un {r : V → Hp → VK → Prop} {f : D → (Res → Prop) → Prop} (ha : SimE C ta ma) (hr : SimR1 C.K r f) : SimE C (tUn r ta) (mUn f ma) := fun Γ O σ H Qd Q R h k => by
  refine ha Γ O σ H _ _ R h fun ra Γ1 x H1 R1 e1 q1 => ?_
  obtain ⟨a, h1, q⟩ := q1
  exact hr O H1 x a _ _ (R1.pend.b2 R1.rel h1) q (outs_of R1.rel e1.1 k)
theorem sim_test (ha : SimE C ta ma) : SimT C (tTest ta) (mTest ma) := fun Γ O σ H Qd Q R h k => by
  refine ha Γ O σ H _ _ R h fun ra Γ1 x H1 R1 e1 q1 => ?_
  obtain ⟨b, rfl, q⟩ := q1
  exact ⟨b, (show B2 C.K O H1 x (.bl b) from .inl R1.2).bl, k b Γ1 H1 R1.rel e1.1 q⟩
theorem sim_testB (ha : SimE C ta ma) : SimT C (tB ta) (mTest ma) := sim_test ha
theorem sim_andV (ha : SimE C ta ma) (hb : SimE C tb mb) : SimE C (tAndV ta tb) (mAndV ma mb) := fun Γ O σ H Qd Q R h k => by
  refine ha Γ O σ H _ _ R h fun ra Γ1 x H1 R1 e1 q1 => ?_
  obtain ⟨c, rfl, q⟩ := q1
  refine ⟨c, (show B2 C.K O H1 x (.bl c) from .inl R1.2).bl, ?_⟩
  cases c with
  | true => exact hb Γ1 O σ H1 _ _ R1.rel q fun r Γ2 v H2 R2 e2 q2 => k r Γ2 v H2 R2 (.after e1.1 e2) q2
  | false => exact k (.val (.bl false)) Γ1 _ H1 ⟨R1.rel, .bl false⟩ (.val e1.1) q
theorem sim_notV (ha : SimE C ta ma) : SimE C (tNotV ta) (mNotV ma) := fun Γ O σ H Qd Q R h k => by
  refine ha Γ O σ H _ _ R h fun ra Γ1 x H1 R1 e1 q1 => ?_
  obtain ⟨c, rfl, q⟩ := q1
  exact ⟨c, (show B2 C.K O H1 x (.bl c) from .inl R1.2).bl, k (.val (.bl (!c))) Γ1 _ H1 ⟨R1.rel, .bl _⟩ (.val e1.1) q⟩
theorem sim_and (ha : SimT C tA mA) (hb : SimT C tB' mB) : SimT C (tAnd tA tB') (mAnd mA mB) := fun Γ O σ H Qd Q R h k => by
  refine ha Γ O σ H _ _ R h fun c Γ1 H1 R1 e1 q => ?_
  cases c with
  | true => exact hb Γ1 O σ H1 _ _ R1 q fun r Γ2 H2 R2 e2 q2 => k r Γ2 H2 R2 (L2.Same.trans e1 e2) q2
  | false => exact k _ Γ1 H1 R1 e1 q
theorem sim_or (ha : SimT C tA mA) (hb : SimT C tB' mB) : SimT C (tOr tA tB') (mOr mA mB) := fun Γ O σ H Qd Q R h k => by
  refine ha Γ O σ H _ _ R h fun c Γ1 H1 R1 e1 q => ?_
  cases c with
  | false => exact hb Γ1 O σ H1 _ _ R1 q fun r Γ2 H2 R2 e2 q2 => k r Γ2 H2 R2 (L2.Same.trans e1 e2) q2
  | true => exact k _ Γ1 H1 R1 e1 q
theorem sim_not (ha : SimT C tA mA) : SimT C (tNot tA) (mNot mA) := fun Γ O σ H Qd Q R h k => ha Γ O σ H _ _ R h fun c Γ1 H1 R1 e1 q => k _ Γ1 H1 R1 e1 q
theorem sim_if (ht : SimT C tA mA) (ha : SimE C ta ma) (hb : SimE C tb mb) : SimE C (tIf tA ta tb) (mIf mA ma mb) := fun Γ O σ H Qd Q R h k => by
  refine ht Γ O σ H _ _ R h fun c Γ1 H1 R1 e1 q => ?_
  cases c with
  | true => exact ha Γ1 O σ H1 _ _ R1 q fun r Γ2 v H2 R2 e2 q2 => k r Γ2 v H2 R2 (.after e1 e2) q2
  | false => exact hb Γ1 O σ H1 _ _ R1 q fun r Γ2 v H2 R2 e2 q2 => k r Γ2 v H2 R2 (.after e1 e2) q2
theorem sim_nil : SimA C tNil mNil := fun Γ O σ H Qd Q R h k => k [] Γ [] H R .nil (L2.Same.refl _) h
theorem sim_cons {tr : TA} {mr : DTA} (ha : SimE C ta ma) (hr : SimA C tr mr) : SimA C (tCons ta tr) (mCons ma mr) := fun Γ O σ H Qd Q R h k => by
  refine ha Γ O σ H _ _ R h fun ra Γ1 x H1 R1 e1 q1 => ?_
  exact hr Γ1 O σ H1 _ _ R1.rel q1 fun rs Γ2 vs H2 R2 p2 e2 q2 => k _ Γ2 _ H2 R2 (.cons (R1.pend.mono e2) p2) (L2.Same.trans e1.1 e2) q2
theorem sim_tup {tr : TA} {mr : DTA} (hr : SimA C tr mr) : SimE C (tTup tr) (mTup mr) := fun Γ O σ H Qd Q R h k => by
  refine hr Γ O σ H _ _ R h fun rs Γ1 vs H1 R1 p1 e1 q1 => ?_
  obtain ⟨ds, h1, h2, q⟩ := q1
  have hr := dats_ok p1 h1
  refine ⟨by rw [hr.length]; exact Nat.le_trans h2 (by decide), fun p hp => (outs_of R1 e1 k).newT p vs ds hp hr q⟩
theorem sim_lst {tr : TA} {mr : DTA} (hr : SimA C tr mr) : SimE C (tLst tr) (mLst mr) := fun Γ O σ H Qd Q R h k => by
  refine hr Γ O σ H _ _ R h fun rs Γ1 vs H1 R1 p1 e1 q1 => ?_
  obtain ⟨ds, h1, h2, q⟩ := q1
  have hr := dats_ok p1 h1
  refine ⟨by rw [hr.length]; exact Nat.le_trans h2 (by decide), fun p hp => (outs_of R1 e1 k).new p _ _ hp (.lst hr) q⟩
theorem sim_cb {tr : TA} {mr : DTA} {r : List V → Hp → VK → Prop} {f : List D → (Res → Prop) → Prop} (ha : SimA C tr mr) (hr : SimRC C.K r f) : SimE C (tCB r tr) (mCB f mr) := fun Γ O σ H Qd Q R h k => by
  refine ha Γ O σ H _ _ R h fun rs Γ1 vs H1 R1 p1 e1 q1 => ?_
  obtain ⟨ds, h1, q⟩ := q1
  exact hr O H1 vs ds _ _ (rds_ok R1 p1 h1) q (outs_of R1 e1 k)
/-! ### rules -/
theorem de_op {op : Operator} {r : R2} {f : D → D → (Res → Prop) → Prop} (ho : OpR X (binaryOp op) r) (hr : SimR2 C.K r f) (ha : DE X C a ta ma) (hb : DE X C b tb mb) : DE X C (.BinOp a op b pos) (tOp r ta tb) (mOp f ma mb) :=
  ⟨pe_op ho ha.pe hb.pe, sim_op ha.sim hb.sim hr⟩
theorem de_un {op : UnaryOp} {r : V → Hp → VK → Prop} {f : D → (Res → Prop) → Prop} (ho : UnR X (unaryOp op) r) (hr : SimR1 C.K r f) (ha : DE X C a ta ma) : DE X C (.UnaryOp op a pos) (tUn r ta) (mUn f ma) :=
  ⟨pe_un ho ha.pe, sim_un ha.sim hr⟩
theorem de_cmp {op : CmpOp} {r : R2} {f : D → D → (Res → Prop) → Prop} (ho : OpR X (compareOp op) r) (hr : SimR2 C.K r f) (ha : DE X C a ta ma) (hb : DE X C b tb mb) (hm : behindInMarks op b = false) : DE X C (.Compare a [op] [b] pos) (tOp r ta tb) (mOp f ma mb) :=
  ⟨pe_cmpR ho ha.pe hb.pe hm, sim_op ha.sim hb.sim hr⟩
theorem dt_cmp {op : CmpOp} {r : R2} {f : D → D → (Res → Prop) → Prop} (ho : OpR X (compareOp op) r) (hr : SimR2 C.K r f) (ha : DE X C a ta ma) (hb : DE X C b tb mb) (hm : behindInMarks op b = false) : DT X C (.Compare a [op] [b] pos) (tTest (tOp r ta tb)) (mTest (mOp f ma mb)) :=
  ⟨pt_cmpR ho ha.pe hb.pe hm, sim_test (sim_op ha.sim hb.sim hr)⟩
theorem dt_val {t : TE} {m : DTE} (h : DE X C e t m) (he : ∀ whole, isTrue e X.env whole = (do let v ← whole; standAt e.pos; holding [v] (truthy v)) := by intro _; rfl) : DT X C e (tB t) (mTest m) := ⟨pt_val h.pe he, sim_test h.sim⟩
theorem dw_pt {t : TT} {m : DTT} (h : DW X C e t m) : DT X C e t m := ⟨h.pw.pt, h.sim⟩
theorem dw_and1 (ha : DT X C a tA mA) : DW X C (.BoolOp .And [a] pos) tA mA := ⟨pw_and1 ha.pt, ha.sim⟩
theorem dw_or1 (ha : DT X C a tA mA) : DW X C (.BoolOp .Or [a] pos) tA mA := ⟨pw_or1 ha.pt, ha.sim⟩
theorem dw_and {rest : List Expr} (ha : DT X C a tA mA) (hb : DW X C (.BoolOp .And (b :: rest) pos) tB' mB) : DW X C (.BoolOp .And (a :: b :: rest) pos) (tAnd tA tB') (mAnd mA mB) := ⟨pw_and ha.pt hb.pw, sim_and ha.sim hb.sim⟩
theorem dw_or {rest : List Expr} (ha : DT X C a tA mA) (hb : DW X C (.BoolOp .Or (b :: rest) pos) tB' mB) : DW X C (.BoolOp .Or (a :: b :: rest) pos) (tOr tA tB') (mOr mA mB) := ⟨pw_or ha.pt hb.pw, sim_or ha.sim hb.sim⟩
theorem dt_not (ha : DT X C a tA mA) : DT X C (.UnaryOp .Not a pos) (tNot tA) (mNot mA) := ⟨pt_not ha.pt, sim_not ha.sim⟩
theorem de_one {op} {t : TE} {m : DTE} (h : DE X C a t m) : DE X C (.BoolOp op [a] pos) t m := ⟨pe_one h.pe, h.sim⟩
theorem de_and {rest : List Expr} (ha : DE X C a ta ma) (hb : DE X C (.BoolOp .And (b :: rest) pos) tb mb) : DE X C (.BoolOp .And (a :: b :: rest) pos) (tAndV ta tb) (mAndV ma mb) := ⟨pe_and ha.pe hb.pe, sim_andV ha.sim hb.sim⟩
theorem de_not (ha : DE X C a ta ma) : DE X C (.UnaryOp .Not a pos) (tNotV ta) (mNotV ma) := ⟨pe_not ha.pe, sim_notV ha.sim⟩
theorem de_if (hc : DT X C c tA mA) (ha : DE X C a ta ma) (hb : DE X C b tb mb) : DE X C (.IfExp c a b pos) (tIf tA ta tb) (mIf mA ma mb) := ⟨pe_ifExp hc.pt ha.pe hb.pe, sim_if hc.sim ha.sim hb.sim⟩
theorem da_nil : DA X C [] tNil mNil := ⟨pa_nil, sim_nil⟩
theorem da_cons {es : List Expr} {tr : TA} {mr : DTA} (ha : DE X C e ta ma) (hr : DA X C es tr mr) (hs : starEach (e :: es) X.env = (false, eval e X.env) :: starEach es X.env := by rfl) : DA X C (e :: es) (tCons ta tr) (mCons ma mr) := ⟨pa_cons ha.pe hr.pa hs, sim_cons ha.sim hr.sim⟩
theorem de_tup {es : List Expr} {tr : TA} {mr : DTA} {x1} (h : DA X C es tr mr) : DE X C (.Tuple es x1 pos) (tTup tr) (mTup mr) := ⟨pe_tup h.pa, sim_tup h.sim⟩
theorem de_lst {es : List Expr} {tr : TA} {mr : DTA} (h : DA X C es tr mr) : DE X C (.List es pos) (tLst tr) (mLst mr) := ⟨pe_lst h.pa, sim_lst h.sim⟩
/-- a call of a built-in by its name -/
theorem de_cb {id : String} {x : Str} {p : Pos} {es : List Expr} {tr : TA} {mr : DTA} {r : List V → Hp → VK → Prop} {f : List D → (Res → Prop) → Prop} (hc : CallR X (.builtin id) r) (hr : SimRC C.K r f) (hg : Gl X x) (hm : X.mg x = none) (hv : bootBuiltins x = some (.builtin id)) (ha : DA X C (e :: es) tr mr)
    (hn : x ≠ "__name__" := by decide) (hdb : (x == ("__debug__" : Str)) = false := by decide) (he : starEach (e :: es) X.env = (false, eval e X.env) :: starEach es X.env := by rfl) (hpl : (backTo pos (starEach es X.env)).any (·.1) = false := by rfl) :
    DE X C (.Call (.Name x p) (e :: es) [] pos) (tCB r tr) (mCB f mr) := ⟨pe_callB hc hg hm hv ha.pa hn hdb he hpl, sim_cb ha.sim hr⟩
theorem de_ct {T : String} {x : Str} {p : Pos} {es : List Expr} {tr : TA} {mr : DTA} {r : List V → Hp → VK → Prop} {f : List D → (Res → Prop) → Prop} (hc : CallR X (.type T) r) (hr : SimRC C.K r f) (hg : Gl X x) (hm : X.mg x = none) (hv : bootBuiltins x = some (.type T)) (ha : DA X C (e :: es) tr mr)
    (hn : x ≠ "__name__" := by decide) (hdb : (x == ("__debug__" : Str)) = false := by decide) (he : starEach (e :: es) X.env = (false, eval e X.env) :: starEach es X.env := by rfl) (hpl : (backTo pos (starEach es X.env)).any (·.1) = false := by rfl) :
    DE X C (.Call (.Name x p) (e :: es) [] pos) (tCB r tr) (mCB f mr) := ⟨pe_callTy hc hg hm hv ha.pa hn hdb he hpl, sim_cb ha.sim hr⟩
end
end DL
/-! the data layer, part 3: operators over data -/
namespace DL
open PySem L2 PyProof.Rows
/-! ### data as the library's data -/
def keyPy : Key → PyData
  | .inl i => .int i
  | .inr s => .str s
mutual
def toPy : D → PyData
  | .non => .none
  | .bl b => .bool b
  | .int i => .int i
  | .str s => .str s
  | .lst ds => .list (toPys ds)
  | .scr ds => .list (toPys ds)
  | .tup ds => .tuple (toPys ds)
  | .dic kvs => .dict (toPyK kvs)
  | .dit _ => .none
  | .dkl kvs => .dict (toPyK kvs)
  | .dtl _ => .none
  | .pnK _ _ => .none
  | .pnT _ _ => .none
  | .obj _ _ _ => .none
  | .cls _ => .none
  | .xcl _ _ => .none
def toPys : List D → List PyData
  | [] => []
  | d :: ds => toPy d :: toPys ds
def toPyK : List (Key × D) → List (PyData × PyData)
  | [] => []
  | (k, d) :: ds => (keyPy k, toPy d) :: toPyK ds
end
/-! no dict, no object within -/
mutual
def plain : D → Bool
  | .non => true
  | .bl _ => true
  | .int _ => true
  | .str _ => true
  | .lst ds => plains ds
  | .scr ds => plains ds
  | .tup ds => plains ds
  | .dic _ => false
  | .dit _ => false
  | .dkl _ => false
  | .dtl _ => false
  | .pnK _ _ => false
  | .pnT _ _ => false
  | .obj _ _ _ => false
  | .cls _ => false
  | .xcl _ _ => false
def plains : List D → Bool
  | [] => true
  | d :: ds => plain d && plains ds
end
section
variable {K : Fg} {H : Hp}
mutual
theorem Rep.dp : ∀ {v : V} {d : D}, Rep K H v d → plain d = true → Dp K H v (toPy d)
  | _, _, .non, _ => by rw [toPy]; exact .non
  | _, _, .bl b, _ => by rw [toPy]; exact .bl b
  | _, _, .int i, _ => by rw [toPy]; exact .int i
  | _, _, .str x, _ => by rw [toPy]; exact .str x
  | _, _, .lst h r, e => by rw [toPy]; exact .lst (SqL.of h) (Reps.dp r (by rw [plain] at e; exact e))
  | _, _, .scr h r, e => by rw [toPy]; exact .lst h (Reps.dp r (by rw [plain] at e; exact e))
  | _, _, .tup h r, e => by rw [toPy]; exact .tup (SqT.of h) (Reps.dp r (by rw [plain] at e; exact e))
  | _, _, .dic _ _, e => by rw [plain] at e; cases e
  | _, _, .dit _ _, e => by rw [plain] at e; cases e
  | _, _, .dkl _ _, e => by rw [plain] at e; cases e
  | _, _, .dtl _ _, e => by rw [plain] at e; cases e
  | _, _, .pnK _, e => by rw [plain] at e; cases e
  | _, _, .pnT _, e => by rw [plain] at e; cases e
  | _, _, .obj _ _ _, e => by rw [plain] at e; cases e
  | _, _, .cls _, e => by rw [plain] at e; cases e
  | _, _, .xcl _, e => by rw [plain] at e; cases e
theorem Reps.dp : ∀ {v : List V} {d : List D}, Reps K H v d → plains d = true → DpAll K H v (toPys d)
  | _, _, .nil, _ => by rw [toPys]; exact .nil
  | _, _, .cons h r, e => by
    rw [plains, Bool.and_eq_true] at e
    rw [toPys]; exact .cons (Rep.dp h e.1) (Reps.dp r e.2)
end
end
theorem B2.dp {K : Fg} {O : List Addr} {H : Hp} {v : V} {d : D} (h : B2 K O H v d) (e : plain d = true) : Dp K H v (toPy d) := by
  rcases h with h | ⟨l, o, rfl, h1, h⟩
  · exact (h.mono hide_same).dp e
  · exact ((h.mono hide_same).rep h1).dp e
/-- two data may be compared by == -/
def okE (d : D) : Bool := plain d && SeqAt.shaped (toPy d)
def eqv (a b : D) : Bool := PyData.eqv (toPy a) (toPy b)
/-! ### operators -/
def addD : D → D → (Res → Prop) → Prop
  | .int i, .int j, Q => Q (.val (.int (i + j)))
  | .lst xs, .lst ys, Q => xs.length + ys.length ≤ 100000 ∧ Q (.fr (.lst (xs ++ ys)))
  | .str x, .str y, Q => x.length + y.length ≤ 100000 ∧ Q (.val (.str (x ++ y)))
  | _, _, _ => False
def subD : D → D → (Res → Prop) → Prop
  | .int i, .int j, Q => Q (.val (.int (i - j)))
  | _, _, _ => False
def MulOk (i j : Int) : Prop := CMul i j ∨ CMulW i j
def mulD : D → D → (Res → Prop) → Prop
  | .int i, .int j, Q => MulOk i j ∧ Q (.val (.int (i * j)))
  | .lst xs, .int k, Q => (-(2 ^ 63) ≤ k ∧ k < 2 ^ 63 ∧ xs.length * k.toNat ≤ 100000) ∧ Q (.fr (.lst (List.replicate k.toNat xs).flatten))
  | _, _, _ => False
def fdivD : D → D → (Res → Prop) → Prop
  | .int i, .int j, Q => CDivW i j ∧ Q (.val (.int (i / j)))
  | _, _, _ => False
def modD : D → D → (Res → Prop) → Prop
  | .int i, .int j, Q => 0 < j ∧ Q (.val (.int (i % j)))
  | _, _, _ => False
def PowOk (i j : Int) : Prop := 0 ≤ j ∧ (Builtin.Int.intBits i : Int) * j ≤ 2 ^ 27
def powD : D → D → (Res → Prop) → Prop
  | .int i, .int j, Q => PowOk i j ∧ Q (.val (.int (i ^ j.toNat)))
  | _, _, _ => False
def negD : D → (Res → Prop) → Prop
  | .int i, Q => Q (.val (.int (-i)))
  | _, _ => False
def ltD : D → D → (Res → Prop) → Prop
  | .int i, .int j, Q => Q (.val (.bl (decide (i < j))))
  | _, _, _ => False
def leD : D → D → (Res → Prop) → Prop
  | .int i, .int j, Q => Q (.val (.bl (decide (i ≤ j))))
  | _, _, _ => False
def gtD : D → D → (Res → Prop) → Prop
  | .int i, .int j, Q => Q (.val (.bl (decide (j < i))))
  | _, _, _ => False
def geD : D → D → (Res → Prop) → Prop
  | .int i, .int j, Q => Q (.val (.bl (decide (j ≤ i))))
  | _, _, _ => False
def eqD (a b : D) (Q : Res → Prop) : Prop := okE a = true ∧ okE b = true ∧ Q (.val (.bl (eqv a b)))
def neD (a b : D) (Q : Res → Prop) : Prop := okE a = true ∧ okE b = true ∧ Q (.val (.bl (!eqv a b)))
def isNonD : D → Bool
  | .non => true
  | _ => false
/-- x is None, x is True (x a truth value) -/
def isD : D → D → (Res → Prop) → Prop
  | .bl x, .bl y, Q => Q (.val (.bl (decide (x = y))))
  | a, .non, Q => Q (.val (.bl (isNonD a)))
  | _, _, _ => False
def isNotD : D → D → (Res → Prop) → Prop
  | .bl x, .bl y, Q => Q (.val (.bl (!decide (x = y))))
  | a, .non, Q => Q (.val (.bl (!isNonD a)))
  | _, _, _ => False
/-- x[i] -/
def ixD : D → D → (Res → Prop) → Prop
  | .lst ds, .int i, Q => ∃ d, atI ds i = some d ∧ Q (.val d)
  | .tup ds, .int i, Q => ∃ d, atI ds i = some d ∧ Q (.val d)
  | .str z, .int i, Q => z.length ≤ 100000 ∧ ∃ c, atI z.cps.toList i = some c ∧ Q (.val (.str ⟨#[c]⟩))
  | _, _, _ => False
section
variable {X : Cx} {K : Fg}
def uAdd : R2 := fun x y H Q => (∃ i j, x = .int i ∧ y = .int j ∧ Q (.int (i + j)) H) ∨ (rCat x y H Q ∨ ∃ i j, x = .str i ∧ y = .str j ∧ i.length + j.length ≤ sizeLine ∧ Q (.str (i ++ j)) H)
theorem op_uAdd : OpR X (binaryOp .Add) uAdd := op_add.or (op_cat.or op_add_str)
theorem sz5 {n : Nat} (h : n ≤ 100000) : n ≤ sizeLine := Nat.le_trans h (by decide)
theorem sim_add : SimR2 K uAdd addD := fun O H x y a b Qd Q h1 h2 q k => by
  unfold addD at q
  split at q
  · obtain rfl := h1.int; obtain rfl := h2.int
    exact .inl ⟨_, _, rfl, rfl, k.val _ _ (.int _) q⟩
  · obtain ⟨p1, vs, rfl, e1, r1⟩ := h1.lst
    obtain ⟨p2, ws, rfl, e2, r2⟩ := h2.lst
    exact .inr (.inl ⟨p1, p2, vs, ws, rfl, rfl, e1, e2, by rw [r1.length, r2.length]; exact sz5 q.1, fun p hp => k.new p _ _ hp (.lst (r1.append r2)) q.2⟩)
  · obtain rfl := h1.str; obtain rfl := h2.str
    exact .inr (.inr ⟨_, _, rfl, rfl, sz5 q.1, k.val _ _ (.str _) q.2⟩)
  · exact q.elim
theorem sim_I0 {g : Int → Int → Int} {f : D → D → (Res → Prop) → Prop} (hf : ∀ a b Qd, f a b Qd → ∃ i j, a = .int i ∧ b = .int j ∧ Qd (.val (.int (g i j)))) : SimR2 K (rI0 fun i j => .int (g i j)) f := fun O H x y a b Qd Q h1 h2 q k => by
  obtain ⟨i, j, rfl, rfl, q2⟩ := hf a b Qd q
  obtain rfl := h1.int; obtain rfl := h2.int
  exact ⟨i, j, rfl, rfl, k.val _ _ (.int _) q2⟩
theorem sim_B0 {g : Int → Int → Bool} {f : D → D → (Res → Prop) → Prop} (hf : ∀ a b Qd, f a b Qd → ∃ i j, a = .int i ∧ b = .int j ∧ Qd (.val (.bl (g i j)))) : SimR2 K (rI0 fun i j => .bl (g i j)) f := fun O H x y a b Qd Q h1 h2 q k => by
  obtain ⟨i, j, rfl, rfl, q2⟩ := hf a b Qd q
  obtain rfl := h1.int; obtain rfl := h2.int
  exact ⟨i, j, rfl, rfl, k.val _ _ (.bl _) q2⟩
theorem sim_I {Cn : Int → Int → Prop} {g : Int → Int → Int} {f : D → D → (Res → Prop) → Prop} (hf : ∀ a b Qd, f a b Qd → ∃ i j, a = .int i ∧ b = .int j ∧ Cn i j ∧ Qd (.val (.int (g i j)))) : SimR2 K (rI Cn fun i j => .int (g i j)) f := fun O H x y a b Qd Q h1 h2 q k => by
  obtain ⟨i, j, rfl, rfl, c, q2⟩ := hf a b Qd q
  obtain rfl := h1.int; obtain rfl := h2.int
  exact ⟨i, j, rfl, rfl, c, k.val _ _ (.int _) q2⟩
theorem sim_sub : SimR2 K (rI0 fun i j => .int (i - j)) subD := sim_I0 fun a b Qd q => by
  unfold subD at q
  split at q
  · exact ⟨_, _, rfl, rfl, q⟩
  · exact q.elim
theorem sim_lt : SimR2 K (rI0 fun i j => .bl (decide (i < j))) ltD := sim_B0 fun a b Qd q => by
  unfold ltD at q
  split at q
  · exact ⟨_, _, rfl, rfl, q⟩
  · exact q.elim
theorem sim_le : SimR2 K (rI0 fun i j => .bl (decide (i ≤ j))) leD := sim_B0 fun a b Qd q => by
  unfold leD at q
  split at q
  · exact ⟨_, _, rfl, rfl, q⟩
  · exact q.elim
theorem sim_gt : SimR2 K (rI0 fun i j => .bl (decide (j < i))) gtD := sim_B0 fun a b Qd q => by
  unfold gtD at q
  split at q
  · exact ⟨_, _, rfl, rfl, q⟩
  · exact q.elim
theorem sim_ge : SimR2 K (rI0 fun i j => .bl (decide (j ≤ i))) geD := sim_B0 fun a b Qd q => by
  unfold geD at q
  split at q
  · exact ⟨_, _, rfl, rfl, q⟩
  · exact q.elim
theorem sim_fdiv : SimR2 K (rI CDivW fun i j => .int (i / j)) fdivD := sim_I fun a b Qd q => by
  unfold fdivD at q
  split at q
  · exact ⟨_, _, rfl, rfl, q.1, q.2⟩
  · exact q.elim
theorem sim_mod : SimR2 K (rI (fun _ j => 0 < j) fun i j => .int (i % j)) modD := sim_I fun a b Qd q => by
  unfold modD at q
  split at q
  · exact ⟨_, _, rfl, rfl, q.1, q.2⟩
  · exact q.elim
theorem op_powW : OpR X (binaryOp .Pow) (rI PowOk fun i j => .int (i ^ j.toNat)) := opI fun _ _ _ _ _ _ _ hc q => pow_int hc.1 hc.2 q
theorem sim_pow : SimR2 K (rI PowOk fun i j => .int (i ^ j.toNat)) powD := sim_I fun a b Qd q => by
  unfold powD at q
  split at q
  · exact ⟨_, _, rfl, rfl, q.1, q.2⟩
  · exact q.elim
theorem sim_neg : SimR1 K (rU fun i => .int (-i)) negD := fun O H x a Qd Q h1 q k => by
  unfold negD at q
  split at q
  · obtain rfl := h1.int
    exact ⟨_, rfl, k.val _ _ (.int _) q⟩
  · exact q.elim
def uMul : R2 := fun x y H Q => (rI CMul fun i j => .int (i * j)) x y H Q ∨ ((rI CMulW fun i j => .int (i * j)) x y H Q ∨ rRep x y H Q)
theorem op_uMul : OpR X (binaryOp .Mult) uMul := op_mul.or (op_mulW.or op_rep)
theorem sim_mul : SimR2 K uMul mulD := fun O H x y a b Qd Q h1 h2 q k => by
  unfold mulD at q
  split at q
  · obtain rfl := h1.int; obtain rfl := h2.int
    rcases q.1 with c | c
    · exact .inl ⟨_, _, rfl, rfl, c, k.val _ _ (.int _) q.2⟩
    · exact .inr (.inl ⟨_, _, rfl, rfl, c, k.val _ _ (.int _) q.2⟩)
  · obtain ⟨p1, vs, rfl, e1, r1⟩ := h1.lst
    obtain rfl := h2.int
    exact .inr (.inr ⟨p1, _, vs, rfl, rfl, e1, q.1.1, q.1.2.1, by rw [r1.length]; exact sz5 q.1.2.2, fun p hp => k.new p _ _ hp (.lst (r1.rep _)) q.2⟩)
  · exact q.elim
theorem sim_eq : SimR2 K (rEqD K) eqD := fun O H x y a b Qd Q h1 h2 q k => by
  obtain ⟨q1, q2, q⟩ := q
  unfold okE at q1 q2
  rw [Bool.and_eq_true] at q1 q2
  exact ⟨_, _, h1.dp q1.1, h2.dp q2.1, q1.2, q2.2, k.val _ _ (.bl _) q⟩
theorem sim_ne : SimR2 K (rNeD K) neD := fun O H x y a b Qd Q h1 h2 q k => by
  obtain ⟨q1, q2, q⟩ := q
  unfold okE at q1 q2
  rw [Bool.and_eq_true] at q1 q2
  exact ⟨_, _, h1.dp q1.1, h2.dp q2.1, q1.2, q2.2, k.val _ _ (.bl _) q⟩
theorem isNon_eq {O : List Addr} {H : Hp} {x : V} {a : D} (h : B2 K O H x a) : isNonD a = decide (x = .non) := by
  rcases h with h | ⟨l, o, rfl, _, h⟩
  · cases h <;> simp [isNonD]
  · cases h <;> simp [isNonD]
def uIsNot : R2 := fun x y H Q => rNotB x y H Q ∨ (y = .non ∧ Q (.bl (!decide (x = .non))) H)
theorem op_uIsNot : OpR X (compareOp .IsNot) uIsNot := op_notBl.or op_notN
theorem sim_isNot : SimR2 K uIsNot isNotD := fun O H x y a b Qd Q h1 h2 q k => by
  unfold isNotD at q
  split at q
  · obtain rfl := h1.bl; obtain rfl := h2.bl
    exact .inl ⟨_, _, rfl, rfl, k.val _ _ (.bl _) q⟩
  · exact .inr ⟨h2.non, k.val _ _ (.bl _) (by rw [← isNon_eq h1]; exact q)⟩
  · exact q.elim
theorem Reps.atI {H : Hp} {vs : List V} {ds : List D} {i : Int} {d : D} (r : Reps K H vs ds) (h : L2.atI ds i = some d) : ∃ v, L2.atI vs i = some v ∧ Rep K H v d := by
  unfold L2.atI at h ⊢
  rw [r.length]
  cases e : ixN ds.length i with
  | none => rw [e] at h; cases h
  | some j =>
    rw [e] at h
    exact r.get h
theorem sim_ix : SimR2 K (rIx K) ixD := fun O H x y a b Qd Q h1 h2 q k => by
  unfold ixD at q
  split at q
  · obtain ⟨p, vs, rfl, e, r⟩ := h1.lst
    obtain rfl := h2.int
    obtain ⟨d, hd, q⟩ := q
    obtain ⟨v, hv, rv⟩ := r.atI hd
    exact .inl ⟨p, vs, _, v, rfl, rfl, SqL.of e, hv, k.val _ _ rv q⟩
  · obtain ⟨p, vs, rfl, e, r⟩ := h1.tup
    obtain rfl := h2.int
    obtain ⟨d, hd, q⟩ := q
    obtain ⟨v, hv, rv⟩ := r.atI hd
    exact .inr (.inl ⟨p, vs, _, v, rfl, rfl, SqT.of e, hv, k.val _ _ rv q⟩)
  · obtain rfl := h1.str
    obtain rfl := h2.int
    obtain ⟨hz, c, hc, q⟩ := q
    exact .inr (.inr ⟨_, _, c, rfl, rfl, sz5 hz, hc, k.val _ _ (.str _) q⟩)
  · exact q.elim
end
/-! ### rules -/
section
variable {X : Cx} {C : Ctx} {ta tb tc : TE} {ma mb mc : DTE} {a b c e : Expr} {pos : Pos}
theorem de_add (ha : DE X C a ta ma) (hb : DE X C b tb mb) : DE X C (.BinOp a .Add b pos) (tOp uAdd ta tb) (mOp addD ma mb) := de_op op_uAdd sim_add ha hb
theorem de_sub (ha : DE X C a ta ma) (hb : DE X C b tb mb) : DE X C (.BinOp a .Sub b pos) (tOp (rI0 fun i j => .int (i - j)) ta tb) (mOp subD ma mb) := de_op op_sub sim_sub ha hb
theorem de_mul (ha : DE X C a ta ma) (hb : DE X C b tb mb) : DE X C (.BinOp a .Mult b pos) (tOp uMul ta tb) (mOp mulD ma mb) := de_op op_uMul sim_mul ha hb
theorem de_fdiv (ha : DE X C a ta ma) (hb : DE X C b tb mb) : DE X C (.BinOp a .FloorDiv b pos) (tOp (rI CDivW fun i j => .int (i / j)) ta tb) (mOp fdivD ma mb) := de_op op_fdivW sim_fdiv ha hb
theorem de_mod (ha : DE X C a ta ma) (hb : DE X C b tb mb) : DE X C (.BinOp a .Mod b pos) (tOp (rI (fun _ j => 0 < j) fun i j => .int (i % j)) ta tb) (mOp modD ma mb) := de_op op_mod sim_mod ha hb
theorem de_pow (ha : DE X C a ta ma) (hb : DE X C b tb mb) : DE X C (.BinOp a .Pow b pos) (tOp (rI PowOk fun i j => .int (i ^ j.toNat)) ta tb) (mOp powD ma mb) := de_op op_powW sim_pow ha hb
theorem de_neg (ha : DE X C a ta ma) : DE X C (.UnaryOp .USub a pos) (tUn (rU fun i => .int (-i)) ta) (mUn negD ma) := de_un un_neg sim_neg ha
theorem de_lt (ha : DE X C a ta ma) (hb : DE X C b tb mb) : DE X C (.Compare a [.Lt] [b] pos) (tOp (rI0 fun i j => .bl (decide (i < j))) ta tb) (mOp ltD ma mb) := de_cmp op_lt sim_lt ha hb (nomark _)
theorem de_le (ha : DE X C a ta ma) (hb : DE X C b tb mb) : DE X C (.Compare a [.LtE] [b] pos) (tOp (rI0 fun i j => .bl (decide (i ≤ j))) ta tb) (mOp leD ma mb) := de_cmp op_le sim_le ha hb (nomark _)
theorem de_gt (ha : DE X C a ta ma) (hb : DE X C b tb mb) : DE X C (.Compare a [.Gt] [b] pos) (tOp (rI0 fun i j => .bl (decide (j < i))) ta tb) (mOp gtD ma mb) := de_cmp op_gt sim_gt ha hb (nomark _)
theorem de_eq (hu : X.A.units + 64 < cLine) (ha : DE X C a ta ma) (hb : DE X C b tb mb) {K0 : Fg} (hK0 : X.K = K0 := by rfl) (hK : K0 = C.K := by rfl) : DE X C (.Compare a [.Eq] [b] pos) (tOp (rEqD K0) ta tb) (mOp eqD ma mb) := by
  subst hK0
  exact (de_cmp (op_eqD hu) (by rw [hK]; exact sim_eq) ha hb (nomark _))
theorem de_ix (ha : DE X C a ta ma) (hb : DE X C b tb mb) (hs : PlainIx b := by intro _ _; rfl) {K0 : Fg} (hK0 : X.K = K0 := by rfl) (hK : K0 = C.K := by rfl) : DE X C (.Subscript a b pos) (tOp (rIx K0) ta tb) (mOp ixD ma mb) := by
  subst hK0
  exact (⟨pe_ix ix_seq ha.pe hb.pe hs, sim_op ha.sim hb.sim (by rw [hK]; exact sim_ix)⟩)
end
end DL
/-! the data layer, part 4: built-ins, slices, methods of built-in types over data -/
namespace DL
open PySem L2 PyProof.Rows
def ints? : List D → Option (List Int)
  | [] => some []
  | .int i :: ds => match ints? ds with
    | some ns => some (i :: ns)
    | none => none
  | _ :: _ => none
def bls? : List D → Option (List Bool)
  | [] => some []
  | .bl i :: ds => match bls? ds with
    | some ns => some (i :: ns)
    | none => none
  | _ :: _ => none
theorem ints?_eq : ∀ {ds : List D} {ns : List Int}, ints? ds = some ns → ds = ns.map D.int
  | [], ns, h => by cases h; rfl
  | d :: ds, ns, h => by
    cases d <;> simp only [ints?] at h <;> try cases h
    split at h
    · rename_i ms e
      cases h
      rw [ints?_eq e]; rfl
    · cases h
theorem bls?_eq : ∀ {ds : List D} {ns : List Bool}, bls? ds = some ns → ds = ns.map D.bl
  | [], ns, h => by cases h; rfl
  | d :: ds, ns, h => by
    cases d <;> simp only [bls?] at h <;> try cases h
    split at h
    · rename_i ms e
      cases h
      rw [bls?_eq e]; rfl
    · cases h
theorem ints?_map : ∀ ns : List Int, ints? (ns.map D.int) = some ns
  | [] => rfl
  | n :: ns => by rw [List.map_cons, ints?, ints?_map ns]
theorem bls?_map : ∀ ns : List Bool, bls? (ns.map D.bl) = some ns
  | [] => rfl
  | n :: ns => by rw [List.map_cons, bls?, bls?_map ns]
/-! ### built-ins by values -/
def lenD : List D → (Res → Prop) → Prop
  | [.lst ds], Q => Q (.val (.int ds.length))
  | [.scr ds], Q => Q (.val (.int ds.length))
  | [.tup ds], Q => Q (.val (.int ds.length))
  | [.str z], Q => z.length ≤ 100000 ∧ Q (.val (.int z.length))
  | [.dic kvs], Q => Q (.val (.int kvs.length))
  | _, _ => False
def intD : List D → (Res → Prop) → Prop
  | [.int i], Q => Q (.val (.int i))
  | [.bl b], Q => Q (.val (.int (if b then 1 else 0)))
  | _, _ => False
def absD : List D → (Res → Prop) → Prop
  | [.int i], Q => Q (.val (.int (i.natAbs : Int)))
  | _, _ => False
def minD : List D → (Res → Prop) → Prop
  | [.int i, .int j], Q => Q (.val (.int (min i j)))
  | [.tup ds], Q => ∃ ns, ints? ds = some ns ∧ 0 < ns.length ∧ ∀ m, m ∈ ns → (∀ y, y ∈ ns → m ≤ y) → Q (.val (.int m))
  | [.lst ds], Q => ∃ ns, ints? ds = some ns ∧ 0 < ns.length ∧ ∀ m, m ∈ ns → (∀ y, y ∈ ns → m ≤ y) → Q (.val (.int m))
  | _, _ => False
def maxD : List D → (Res → Prop) → Prop
  | [.int i, .int j], Q => Q (.val (.int (max i j)))
  | [.tup ds], Q => ∃ ns, ints? ds = some ns ∧ 0 < ns.length ∧ ∀ m, m ∈ ns → (∀ y, y ∈ ns → y ≤ m) → Q (.val (.int m))
  | [.lst ds], Q => ∃ ns, ints? ds = some ns ∧ 0 < ns.length ∧ ∀ m, m ∈ ns → (∀ y, y ∈ ns → y ≤ m) → Q (.val (.int m))
  | _, _ => False
def sumD : List D → (Res → Prop) → Prop
  | [.lst ds], Q => ∃ ns, ints? ds = some ns ∧ Q (.val (.int ns.sum))
  | [.tup ds], Q => ∃ ns, ints? ds = some ns ∧ Q (.val (.int ns.sum))
  | _, _ => False
section
variable {prog : Program} {w : World} {A : Around} {E : Value → Shared → Prop} {s : Shared} {t : Addr} {xs : Array (Int × Tok)} {its : List Value} {ns : List Int}
theorem iter_tup {Q : Value → Shared → Prop} (hl : s.heap.IsTuple t (intItems xs))
    (h : ∀ s₂ : Shared, s₂ = { s with heap := s.heap.push { cls := .type "tuple_iterator", data := .fields #[.ref t, .int 0 0] } } →
      (s₂.heap.IsTupleIter s.heap.objs.size t 0 ∧ s₂.heap.IsTuple t (intItems xs)) → (∀ b ∈ [s.heap.objs.size, t], b < s₂.heap.objs.size) → t ≠ s.heap.objs.size → Q (.ref s.heap.objs.size) s₂) :
    wpAny (model prog w) A (pyIter (.ref t)) Q E s := by
  have hlt : t < s.heap.objs.size := by obtain ⟨_, e, _⟩ := hl; exact Heap.lt_size e
  refine wpAny_pyIter_tuple hl (h _ rfl ⟨⟨_, Heap.get?_push_size _ rfl, rfl, rfl⟩, hl.push _⟩ (fun b hb => ?_) (Nat.ne_of_lt hlt))
  show b < (s.heap.push _).objs.size
  rw [Heap.size_push]
  rcases List.mem_cons.mp hb with rfl | hb
  · exact Nat.lt_succ_self _
  · rcases List.mem_cons.mp hb with rfl | hb
    · exact Nat.lt_succ_of_lt hlt
    · cases hb
theorem old_tup {h' : Heap} (hk : ∀ b o, b ∉ [s.heap.objs.size] → (s.heap.push { cls := .type "tuple_iterator", data := .fields #[.ref t, .int 0 0] }).get? b = some o → h'.get? b = some o) :
    ∀ b o, s.heap.get? b = some o → h'.get? b = some o := fun b o e => by
  refine hk b o (fun hm => ?_) (Heap.get?_push_of_some _ e)
  rcases List.mem_cons.mp hm with e1 | hm
  · exact absurd (e1 ▸ Heap.lt_size e) (Nat.lt_irrefl _)
  · cases hm
theorem max_tup {Q : Value → Shared → Prop} (hh : A.handled = none) (hl : s.heap.IsTuple t its.toArray) (hi : PyProof.Rows.IntsAre its ns) (hne : 0 < ns.length)
    (h : ∀ h' tk M t', (∀ b o, s.heap.get? b = some o → h'.get? b = some o) → M ∈ ns → (∀ a, a ∈ ns → a ≤ M) → Q (.int M t') { s with heap := h', toks := tk }) : wpAny (model prog w) A (call (.builtin "max") [.ref t]) Q E s := by
  obtain ⟨xs, e⟩ := hi.allInts.items
  have hn : PySem.numsOf (intItems xs).toList = ns := by rw [← e]; exact hi.numsOf
  rw [PySem.nums_intItems] at hn
  subst hn
  rw [e] at hl
  have hsz : 0 < xs.size := by simpa using hne
  refine call_max_walk (iter_tup hl fun s₂ e st hfp hlI => ?_)
  subst e
  refine ⟨_, _, _, _, _, _, _, rfl, Walks.tuple (A := A.in1) hh _ t hlI (intItems xs), st, hfp, by simpa [intItems] using hsz, CmpOf.ints_gt (numAt xs) (fun _ _ => intItems_at), fun v h' tk hP hk => ?_⟩
  have hv : (intItems xs)[PySem.argBest (fun i j => decide (numAt xs i > numAt xs j)) (xs.size - 1)]? = some v := by simpa [intItems] using hP
  obtain ⟨t', rfl⟩ := intItems_at hv
  obtain ⟨h1, h2⟩ := PySem.argBest_gt (numAt xs) (xs.size - 1)
  refine h h' tk _ t' (old_tup hk) ?_ fun a ha => ?_
  · rw [PySem.numAt_eq]; exact PySem.getD_mem (by rw [List.length_map, Array.length_toList]; omega)
  · obtain ⟨j, hj, rfl⟩ := mem_getD ha
    rw [List.length_map, Array.length_toList] at hj
    rw [← PySem.numAt_eq]; exact h2 j (by omega)
theorem min_tup {Q : Value → Shared → Prop} (hh : A.handled = none) (hl : s.heap.IsTuple t its.toArray) (hi : PyProof.Rows.IntsAre its ns) (hne : 0 < ns.length)
    (h : ∀ h' tk M t', (∀ b o, s.heap.get? b = some o → h'.get? b = some o) → M ∈ ns → (∀ a, a ∈ ns → M ≤ a) → Q (.int M t') { s with heap := h', toks := tk }) : wpAny (model prog w) A (call (.builtin "min") [.ref t]) Q E s := by
  obtain ⟨xs, e⟩ := hi.allInts.items
  have hn : PySem.numsOf (intItems xs).toList = ns := by rw [← e]; exact hi.numsOf
  rw [PySem.nums_intItems] at hn
  subst hn
  rw [e] at hl
  have hsz : 0 < xs.size := by simpa using hne
  refine call_min_walk (iter_tup hl fun s₂ e st hfp hlI => ?_)
  subst e
  refine ⟨_, _, _, _, _, _, _, rfl, Walks.tuple (A := A.in1) hh _ t hlI (intItems xs), st, hfp, by simpa [intItems] using hsz, CmpOf.ints_lt (numAt xs) (fun _ _ => intItems_at), fun v h' tk hP hk => ?_⟩
  have hv : (intItems xs)[PySem.argBest (fun i j => decide (numAt xs i < numAt xs j)) (xs.size - 1)]? = some v := by simpa [intItems] using hP
  obtain ⟨t', rfl⟩ := intItems_at hv
  obtain ⟨h1, h2⟩ := PySem.argBest_lt (numAt xs) (xs.size - 1)
  refine h h' tk _ t' (old_tup hk) ?_ fun a ha => ?_
  · rw [PySem.numAt_eq]; exact PySem.getD_mem (by rw [List.length_map, Array.length_toList]; omega)
  · obtain ⟨j, hj, rfl⟩ := mem_getD ha
    rw [List.length_map, Array.length_toList] at hj
    rw [← PySem.numAt_eq]; exact h2 j (by omega)
end
def rMaxT (K : Fg) : List V → Hp → VK → Prop := fun vs H Q => ∃ (a : Addr) (ns : List Int), vs = [V.ref a] ∧ SqT K H a (ns.map V.int) ∧ 0 < ns.length ∧ ∀ m, m ∈ ns → (∀ y, y ∈ ns → y ≤ m) → Q (.int m) H
def rMinT (K : Fg) : List V → Hp → VK → Prop := fun vs H Q => ∃ (a : Addr) (ns : List Int), vs = [V.ref a] ∧ SqT K H a (ns.map V.int) ∧ 0 < ns.length ∧ ∀ m, m ∈ ns → (∀ y, y ∈ ns → m ≤ y) → Q (.int m) H
theorem cr_maxT {X : Cx} (hc : X.calm = true) : CallR X (.builtin "max") (rMaxT X.K) := by
  intro pins s σ H vs us Q I r h
  obtain ⟨a, ns, rfl, hs, hne, q⟩ := h
  obtain ⟨its, rv, hl, _⟩ := I.tuple hs
  rw [Vals.ref1 r]
  exact max_tup (I.ok.hd hc) hl rv.ints hne fun h' tk m t' hk h1 h2 => ⟨.int _, H, I.kept hk, ⟨_, rfl⟩, q m h1 h2⟩
theorem cr_minT {X : Cx} (hc : X.calm = true) : CallR X (.builtin "min") (rMinT X.K) := by
  intro pins s σ H vs us Q I r h
  obtain ⟨a, ns, rfl, hs, hne, q⟩ := h
  obtain ⟨its, rv, hl, _⟩ := I.tuple hs
  rw [Vals.ref1 r]
  exact min_tup (I.ok.hd hc) hl rv.ints hne fun h' tk m t' hk h1 h2 => ⟨.int _, H, I.kept hk, ⟨_, rfl⟩, q m h1 h2⟩
def allD : List D → (Res → Prop) → Prop
  | [.lst ds], Q => ∃ ns, bls? ds = some ns ∧ Q (.val (.bl (ns.all id)))
  | _, _ => False
def anyD : List D → (Res → Prop) → Prop
  | [.lst ds], Q => ∃ ns, bls? ds = some ns ∧ Q (.val (.bl (ns.any id)))
  | _, _ => False
def listD : List D → (Res → Prop) → Prop
  | [.lst ds], Q => Q (.fr (.lst ds))
  | [.scr ds], Q => Q (.fr (.lst ds))
  | [.tup ds], Q => Q (.fr (.lst ds))
  | _, _ => False
def tupleD : List D → (Res → Prop) → Prop
  | [.lst ds], Q => Q (.val (.tup ds))
  | [.tup ds], Q => Q (.val (.tup ds))
  | _, _ => False
def divmodD : List D → (Res → Prop) → Prop
  | [.int i, .int j], Q => CDiv i j ∧ Q (.val (.tup [.int (i / j), .int (i % j)]))
  | _, _ => False
section
variable {K : Fg} {O : List Addr} {H : Hp} {x y : V}
theorem B2s.one {vs : List V} {d : D} (h : B2s K O H vs [d]) : ∃ v, vs = [v] ∧ B2 K O H v d := by
  cases h with | cons h t => cases t; exact ⟨_, rfl, h⟩
theorem B2s.two {vs : List V} {d e : D} (h : B2s K O H vs [d, e]) : ∃ v w, vs = [v, w] ∧ B2 K O H v d ∧ B2 K O H w e := by
  cases h with | cons h t => cases t with | cons h' t => cases t; exact ⟨_, _, rfl, h, h'⟩
theorem RepK.length : ∀ {vs : List (Key × V)} {ds : List (Key × D)}, RepK K H vs ds → vs.length = ds.length
  | _, _, .nil => rfl
  | _, _, .cons _ r => by rw [List.length_cons, List.length_cons, RepK.length r]
end
section
variable {X : Cx} {K : Fg}
def uLen (K : Fg) : List V → Hp → VK → Prop := fun xs H Q => (∃ x n, xs = [x] ∧ LenV K x H n ∧ Q (.int n) H) ∨ ∃ a kvs, xs = [V.ref a] ∧ H a = some (.dK kvs) ∧ Q (.int kvs.length) H
theorem cr_uLen : CallR X (.builtin "len") (uLen X.K) := call_len.or call_lenD
theorem sim_len : SimRC K (uLen K) lenD := fun O H vs ds Qd Q h q k => by
  unfold lenD at q
  split at q
  · obtain ⟨v, rfl, hb⟩ := h.one
    obtain ⟨p, vs, rfl, e, r⟩ := hb.lst
    exact .inl ⟨_, vs.length, rfl, .inl ⟨vs, SqL.of e, rfl⟩, k.val _ _ (by rw [r.length]; exact .int _) q⟩
  · obtain ⟨v, rfl, hb⟩ := h.one
    obtain ⟨p, vs, rfl, e, r⟩ := hb.scr
    exact .inl ⟨_, vs.length, rfl, .inl ⟨vs, e, rfl⟩, k.val _ _ (by rw [r.length]; exact .int _) q⟩
  · obtain ⟨v, rfl, hb⟩ := h.one
    obtain ⟨p, vs, rfl, e, r⟩ := hb.tup
    exact .inl ⟨_, vs.length, rfl, .inr ⟨vs, SqT.of e, rfl⟩, k.val _ _ (by rw [r.length]; exact .int _) q⟩
  · obtain ⟨v, rfl, hb⟩ := h.one
    obtain rfl := hb.str
    exact .inl ⟨_, _, rfl, ⟨sz5 q.1, rfl⟩, k.val _ _ (.int _) q.2⟩
  · obtain ⟨v, rfl, hb⟩ := h.one
    obtain ⟨p, vs, rfl, e, r⟩ := hb.dic
    exact .inr ⟨p, vs, rfl, e, k.val _ _ (by rw [r.length]; exact .int _) q⟩
  · exact q.elim
def uInt : List V → Hp → VK → Prop := fun xs H Q => (∃ i, xs = [.int i] ∧ Q (.int i) H) ∨ ∃ k, xs = [.bl k] ∧ Q (.int (if k then 1 else 0)) H
theorem sim_int : SimRC K uInt intD := fun O H vs ds Qd Q h q k => by
  unfold intD at q
  split at q
  · obtain ⟨v, rfl, hb⟩ := h.one
    obtain rfl := hb.int
    exact .inl ⟨_, rfl, k.val _ _ (.int _) q⟩
  · obtain ⟨v, rfl, hb⟩ := h.one
    obtain rfl := hb.bl
    exact .inr ⟨_, rfl, k.val _ _ (.int _) q⟩
  · exact q.elim
def uAbs : List V → Hp → VK → Prop := fun xs H Q => ∃ i, xs = [.int i] ∧ Q (.int (if i < 0 then -i else i)) H
theorem sim_abs : SimRC K uAbs absD := fun O H vs ds Qd Q h q k => by
  unfold absD at q
  split at q
  · rename_i i
    obtain ⟨v, rfl, hb⟩ := h.one
    obtain rfl := hb.int
    refine ⟨_, rfl, k.val _ _ ?_ q⟩
    rw [show ((i.natAbs : Nat) : Int) = if i < 0 then -i else i by split <;> omega]
    exact .int _
  · exact q.elim
def uMin (K : Fg) : List V → Hp → VK → Prop := fun xs H Q => (∃ i j, xs = [.int i, .int j] ∧ Q (.int (if j < i then j else i)) H) ∨ (rMin K xs H Q ∨ rMinT K xs H Q)
theorem cr_uMin (hc : X.calm = true) : CallR X (.builtin "min") (uMin X.K) := (call_min2 hc).or ((cr_min hc).or (cr_minT hc))
theorem sim_min : SimRC K (uMin K) minD := fun O H vs ds Qd Q h q k => by
  unfold minD at q
  split at q
  · rename_i i j
    obtain ⟨v, w, rfl, h1, h2⟩ := h.two
    obtain rfl := h1.int
    obtain rfl := h2.int
    refine .inl ⟨_, _, rfl, k.val _ _ ?_ q⟩
    rw [show min i j = if j < i then j else i by split <;> omega]
    exact .int _
  · obtain ⟨v, rfl, hb⟩ := h.one
    obtain ⟨p, vs, rfl, e, r⟩ := hb.tup
    obtain ⟨ns, e1, h0, q⟩ := q
    obtain rfl := ints?_eq e1
    obtain rfl := r.ints
    exact .inr (.inr ⟨p, ns, rfl, SqT.of e, h0, fun m h1 h2 => k.val _ _ (.int _) (q m h1 h2)⟩)
  · obtain ⟨v, rfl, hb⟩ := h.one
    obtain ⟨p, vs, rfl, e, r⟩ := hb.lst
    obtain ⟨ns, e1, h0, q⟩ := q
    obtain rfl := ints?_eq e1
    obtain rfl := r.ints
    exact .inr (.inl ⟨p, ns, rfl, SqL.of e, h0, fun m h1 h2 => k.val _ _ (.int _) (q m h1 h2)⟩)
  · exact q.elim
def uMax (K : Fg) : List V → Hp → VK → Prop := fun xs H Q => (∃ i j, xs = [.int i, .int j] ∧ Q (.int (if j > i then j else i)) H) ∨ (rMax K xs H Q ∨ rMaxT K xs H Q)
theorem cr_uMax (hc : X.calm = true) : CallR X (.builtin "max") (uMax X.K) := (call_max2 hc).or ((cr_max hc).or (cr_maxT hc))
theorem sim_max : SimRC K (uMax K) maxD := fun O H vs ds Qd Q h q k => by
  unfold maxD at q
  split at q
  · rename_i i j
    obtain ⟨v, w, rfl, h1, h2⟩ := h.two
    obtain rfl := h1.int
    obtain rfl := h2.int
    refine .inl ⟨_, _, rfl, k.val _ _ ?_ q⟩
    rw [show max i j = if j > i then j else i by split <;> omega]
    exact .int _
  · obtain ⟨v, rfl, hb⟩ := h.one
    obtain ⟨p, vs, rfl, e, r⟩ := hb.tup
    obtain ⟨ns, e1, h0, q⟩ := q
    obtain rfl := ints?_eq e1
    obtain rfl := r.ints
    exact .inr (.inr ⟨p, ns, rfl, SqT.of e, h0, fun m h1 h2 => k.val _ _ (.int _) (q m h1 h2)⟩)
  · obtain ⟨v, rfl, hb⟩ := h.one
    obtain ⟨p, vs, rfl, e, r⟩ := hb.lst
    obtain ⟨ns, e1, h0, q⟩ := q
    obtain rfl := ints?_eq e1
    obtain rfl := r.ints
    exact .inr (.inl ⟨p, ns, rfl, SqL.of e, h0, fun m h1 h2 => k.val _ _ (.int _) (q m h1 h2)⟩)
  · exact q.elim
theorem sim_all : SimRC K (rAll K) allD := fun O H vs ds Qd Q h q k => by
  unfold allD at q
  split at q
  · obtain ⟨v, rfl, hb⟩ := h.one
    obtain ⟨p, vs, rfl, e, r⟩ := hb.lst
    obtain ⟨ns, e1, q⟩ := q
    obtain rfl := bls?_eq e1
    obtain rfl := r.bls
    exact ⟨p, ns, rfl, SqL.of e, k.val _ _ (.bl _) q⟩
  · exact q.elim
def uList (K : Fg) : List V → Hp → VK → Prop := fun xs H Q => ∃ p ys, xs = [.ref p] ∧ (SqL K H p ys ∨ SqT K H p ys) ∧ ∀ l, H l = none → Q (.ref l) (upd H l (.lst ys))
theorem sim_list : SimRC K (uList K) listD := fun O H vs ds Qd Q h q k => by
  unfold listD at q
  split at q
  · obtain ⟨v, rfl, hb⟩ := h.one
    obtain ⟨p, vs, rfl, e, r⟩ := hb.lst
    exact ⟨p, vs, rfl, .inl (SqL.of e), fun l hl => k.new l _ _ hl (.lst r) q⟩
  · obtain ⟨v, rfl, hb⟩ := h.one
    obtain ⟨p, vs, rfl, e, r⟩ := hb.scr
    exact ⟨p, vs, rfl, .inl e, fun l hl => k.new l _ _ hl (.lst r) q⟩
  · obtain ⟨v, rfl, hb⟩ := h.one
    obtain ⟨p, vs, rfl, e, r⟩ := hb.tup
    exact ⟨p, vs, rfl, .inr (SqT.of e), fun l hl => k.new l _ _ hl (.lst r) q⟩
  · exact q.elim
def uTuple (K : Fg) : List V → Hp → VK → Prop := fun xs H Q => ∃ p ys, xs = [.ref p] ∧ ((SqL K H p ys ∧ ∀ l, H l = none → Q (.ref l) (upd H l (.tup ys))) ∨ (SqT K H p ys ∧ Q (.ref p) H))
theorem sim_tuple : SimRC K (uTuple K) tupleD := fun O H vs ds Qd Q h q k => by
  unfold tupleD at q
  split at q
  · obtain ⟨v, rfl, hb⟩ := h.one
    obtain ⟨p, vs, rfl, e, r⟩ := hb.lst
    exact ⟨p, vs, rfl, .inl ⟨SqL.of e, fun l hl => k.newT l _ _ hl r q⟩⟩
  · obtain ⟨v, rfl, hb⟩ := h.one
    rcases hb with h1 | ⟨l, o, _, _, h1⟩
    · cases h1 with
      | tup h r => exact ⟨_, _, rfl, .inr ⟨SqT.of (hide_same _ _ (by assumption)), k.val _ _ (.tup (by assumption) r) q⟩⟩
    · cases h1
  · exact q.elim
def uDivmod : List V → Hp → VK → Prop := fun xs H Q => ∃ i j, xs = [.int i, .int j] ∧ CDiv i j ∧ ∀ p, H p = none → Q (.ref p) (upd H p (.tup [.int (i / j), .int (i % j)]))
theorem sim_divmod : SimRC K uDivmod divmodD := fun O H vs ds Qd Q h q k => by
  unfold divmodD at q
  split at q
  · obtain ⟨v, w, rfl, h1, h2⟩ := h.two
    obtain rfl := h1.int
    obtain rfl := h2.int
    exact ⟨_, _, rfl, q.1, fun p hp => k.newT p _ _ hp (.cons (.int _) (.cons (.int _) .nil)) q.2⟩
  · exact q.elim
end
/-! ### slices -/
def DOo (X : Cx) (C : Ctx) (e : Option Expr) (t : TO) (m : Env → (Option Int → Env → Prop) → Prop) : Prop := PO X e t ∧ ∀ (Γ : Env) (O : List Addr) (σ : L2.St) (H : Hp) (Qd : Option Int → Env → Prop) (Q : Option Int → Hp → Prop), RelO C Γ O σ H → m Γ Qd →
  (∀ b Γ' H', RelO C Γ' O σ H' → Same (hide O H) (hide O H') → Qd b Γ' → Q b H') → t σ H Q
def mNoP : Env → (Option Int → Env → Prop) → Prop := fun Γ Q => Q none Γ
def mPart (ma : DTE) : Env → (Option Int → Env → Prop) → Prop := fun Γ Q => ma Γ fun r Γ1 => ∃ i, r = .val (.int i) ∧ Q (some i) Γ1
def cutD (xs : List D) (lo hi : Option Int) : List D := (xs.drop (HT.sIx xs.length 0 lo)).take (HT.sIx xs.length xs.length hi - HT.sIx xs.length 0 lo)
theorem Reps.cut {K : Fg} {H : Hp} {vs : List V} {ds : List D} (r : Reps K H vs ds) (lo hi : Option Int) : Reps K H (cutV vs lo hi) (cutD ds lo hi) := by
  unfold cutV cutD
  rw [r.length]
  exact (r.drop _).take _
def slD : D → Option Int → Option Int → (Res → Prop) → Prop
  | .lst ds, lo, hi, Q => Q (.fr (.lst (cutD ds lo hi)))
  | .scr ds, lo, hi, Q => Q (.fr (.lst (cutD ds lo hi)))
  | .str z, lo, hi, Q => z.length ≤ 100000 ∧ Q (.val (.str (cutS z lo hi)))
  | _, _, _, _ => False
def mSl (f : D → Option Int → Option Int → (Res → Prop) → Prop) (ma : DTE) (ml mh : Env → (Option Int → Env → Prop) → Prop) : DTE := fun Γ Q => ma Γ fun r Γ1 => ml Γ1 fun lo Γ2 => mh Γ2 fun hi Γ3 => ∃ d, rd Γ3 r = some d ∧ f d lo hi fun r => Q r Γ3
section
variable {X : Cx} {C : Ctx} {ta : TE} {ma : DTE} {a e : Expr} {pos p2 : Pos}
theorem do_none : DOo X C none tNoPart mNoP := ⟨po_none, fun Γ O σ H Qd Q R h k => k none Γ H R (L2.Same.refl _) h⟩
theorem do_some (h : DE X C e ta ma) : DOo X C (some e) (tPart ta) (mPart ma) := ⟨po_some h.pe, fun Γ O σ H Qd Q R hm k => h.sim Γ O σ H _ _ R hm fun r Γ1 v H1 R1 e1 q1 => by
  obtain ⟨i, rfl, q⟩ := q1
  exact ⟨i, (show B2 C.K O H1 v (.int i) from .inl R1.2).int, k (some i) Γ1 H1 R1.rel e1.1 q⟩⟩
def uSl (K : Fg) : V → Option Int → Option Int → Hp → VK → Prop := fun x lo hi H Q => rSlL K x lo hi H Q ∨ rSlS x lo hi H Q
theorem sl_u : SlR X (uSl X.K) := sl_list.or sl_str
theorem de_sl {lo hi : Option Expr} {tl th : TO} {ml mh : Env → (Option Int → Env → Prop) → Prop} (he : DE X C a ta ma) (hl : DOo X C lo tl ml) (hh : DOo X C hi th mh) {K0 : Fg} (hK0 : X.K = K0 := by rfl) (hK : K0 = C.K := by rfl) :
    DE X C (.Subscript a (.Slice lo hi none p2) pos) (tSl (uSl K0) ta tl th) (mSl slD ma ml mh) := by
  subst hK0
  refine ⟨pe_slice sl_u he.pe hl.1 hh.1, fun Γ O σ H Qd Q R h k => ?_⟩
  refine he.sim Γ O σ H _ _ R h fun r Γ1 v H1 R1 e1 q1 => ?_
  refine hl.2 Γ1 O σ H1 _ _ R1.rel q1 fun i1 Γ2 H2 R2 e2 q2 => ?_
  refine hh.2 Γ2 O σ H2 _ _ R2 q2 fun i2 Γ3 H3 R3 e3 q3 => ?_
  obtain ⟨d, hd, q⟩ := q3
  have b := (R1.pend.mono (L2.Same.trans e2 e3)).b2 R3 hd
  have o := outs_of R3 (L2.Same.trans e1.1 (L2.Same.trans e2 e3)) k
  unfold slD at q
  split at q
  · obtain ⟨p, vs, rfl, e, r⟩ := b.lst
    exact .inl ⟨p, vs, rfl, SqL.of e, fun p hp => o.new p _ _ hp (.lst (r.cut _ _)) q⟩
  · obtain ⟨p, vs, rfl, e, r⟩ := b.scr
    rw [hK]
    exact .inl ⟨p, vs, rfl, e, fun p hp => o.new p _ _ hp (.lst (r.cut _ _)) q⟩
  · obtain rfl := b.str
    exact .inr ⟨_, rfl, sz5 q.1, o.val _ _ (.str _) q.2⟩
  · exact q.elim
/-- xs[::-1] -/
def mRevL (ma : DTE) : DTE := fun Γ Q => ma Γ fun r Γ1 => ∃ ds, rd Γ1 r = some (.lst ds) ∧ Q (.fr (.lst ds.reverse)) Γ1
theorem de_revL {k : Nat} {p1 p3 p4 : Pos} (he : DE X C e ta ma) : DE X C (.Subscript e (.Slice none none (some (.UnaryOp .USub (.Constant (.int 1) k p1) p4)) p3) pos) (tRevL X.K ta) (mRevL ma) := by
  refine ⟨pe_revL he.pe, fun Γ O σ H Qd Q R h k => ?_⟩
  refine he.sim Γ O σ H _ _ R h fun r Γ1 v H1 R1 e1 q1 => ?_
  obtain ⟨ds, hd, q⟩ := q1
  obtain ⟨p, vs, rfl, e, r⟩ := (R1.pend.b2 R1.rel hd).lst
  exact ⟨p, vs, rfl, SqL.of e, fun l hl => (outs_of R1.rel e1.1 k).new l _ _ hl (.lst r.reverse) q⟩
/-! ### built-ins by name -/
variable {x : Str} {p : Pos} {b : Expr} {tb : TE} {mb : DTE} {tr : TA} {mr : DTA} {es : List Expr}
theorem de_abs (hg : Gl X "abs") (hm : X.mg "abs" = none) (ha : DA X C (e :: es) tr mr)
    (he : starEach (e :: es) X.env = (false, eval e X.env) :: starEach es X.env := by rfl) (hpl : (backTo pos (starEach es X.env)).any (·.1) = false := by rfl) :
    DE X C (.Call (.Name "abs" p) (e :: es) [] pos) (tCB uAbs tr) (mCB absD mr) := de_cb call_abs sim_abs hg hm (by decide +kernel) ha (he := he) (hpl := hpl)
theorem de_len (hg : Gl X "len") (hm : X.mg "len" = none) (ha : DA X C (e :: es) tr mr) {K0 : Fg} (hK0 : X.K = K0 := by rfl) (hK : K0 = C.K := by rfl)
    (he : starEach (e :: es) X.env = (false, eval e X.env) :: starEach es X.env := by rfl) (hpl : (backTo pos (starEach es X.env)).any (·.1) = false := by rfl) :
    DE X C (.Call (.Name "len" p) (e :: es) [] pos) (tCB (uLen K0) tr) (mCB lenD mr) := by
  subst hK0
  exact (de_cb cr_uLen (by rw [hK]; exact sim_len) hg hm (by decide +kernel) ha (he := he) (hpl := hpl))
theorem de_intc (hg : Gl X "int") (hm : X.mg "int" = none) (ha : DA X C (e :: es) tr mr)
    (he : starEach (e :: es) X.env = (false, eval e X.env) :: starEach es X.env := by rfl) (hpl : (backTo pos (starEach es X.env)).any (·.1) = false := by rfl) :
    DE X C (.Call (.Name "int" p) (e :: es) [] pos) (tCB uInt tr) (mCB intD mr) := de_ct call_int1 sim_int hg hm (by decide +kernel) ha (he := he) (hpl := hpl)
theorem de_min (hc : X.calm = true) (hg : Gl X "min") (hm : X.mg "min" = none) (ha : DA X C (e :: es) tr mr) {K0 : Fg} (hK0 : X.K = K0 := by rfl) (hK : K0 = C.K := by rfl)
    (he : starEach (e :: es) X.env = (false, eval e X.env) :: starEach es X.env := by rfl) (hpl : (backTo pos (starEach es X.env)).any (·.1) = false := by rfl) :
    DE X C (.Call (.Name "min" p) (e :: es) [] pos) (tCB (uMin K0) tr) (mCB minD mr) := by
  subst hK0
  exact (de_cb (cr_uMin hc) (by rw [hK]; exact sim_min) hg hm (by decide +kernel) ha (he := he) (hpl := hpl))
theorem de_max (hc : X.calm = true) (hg : Gl X "max") (hm : X.mg "max" = none) (ha : DA X C (e :: es) tr mr) {K0 : Fg} (hK0 : X.K = K0 := by rfl) (hK : K0 = C.K := by rfl)
    (he : starEach (e :: es) X.env = (false, eval e X.env) :: starEach es X.env := by rfl) (hpl : (backTo pos (starEach es X.env)).any (·.1) = false := by rfl) :
    DE X C (.Call (.Name "max" p) (e :: es) [] pos) (tCB (uMax K0) tr) (mCB maxD mr) := by
  subst hK0
  exact (de_cb (cr_uMax hc) (by rw [hK]; exact sim_max) hg hm (by decide +kernel) ha (he := he) (hpl := hpl))
theorem de_all (hc : X.calm = true) (hg : Gl X "all") (hm : X.mg "all" = none) (ha : DA X C (e :: es) tr mr) {K0 : Fg} (hK0 : X.K = K0 := by rfl) (hK : K0 = C.K := by rfl)
    (he : starEach (e :: es) X.env = (false, eval e X.env) :: starEach es X.env := by rfl) (hpl : (backTo pos (starEach es X.env)).any (·.1) = false := by rfl) :
    DE X C (.Call (.Name "all" p) (e :: es) [] pos) (tCB (rAll K0) tr) (mCB allD mr) := by
  subst hK0
  exact (de_cb (cr_all hc) (by rw [hK]; exact sim_all) hg hm (by decide +kernel) ha (he := he) (hpl := hpl))
theorem de_list (hg : Gl X "list") (hm : X.mg "list" = none) (ha : DA X C (e :: es) tr mr) {K0 : Fg} (hK0 : X.K = K0 := by rfl) (hK : K0 = C.K := by rfl)
    (he : starEach (e :: es) X.env = (false, eval e X.env) :: starEach es X.env := by rfl) (hpl : (backTo pos (starEach es X.env)).any (·.1) = false := by rfl) :
    DE X C (.Call (.Name "list" p) (e :: es) [] pos) (tCB (uList K0) tr) (mCB listD mr) := by
  subst hK0
  exact (de_ct call_list_of (by rw [hK]; exact sim_list) hg hm (by decide +kernel) ha (he := he) (hpl := hpl))
theorem de_tuple (hg : Gl X "tuple") (hm : X.mg "tuple" = none) (ha : DA X C (e :: es) tr mr) {K0 : Fg} (hK0 : X.K = K0 := by rfl) (hK : K0 = C.K := by rfl)
    (he : starEach (e :: es) X.env = (false, eval e X.env) :: starEach es X.env := by rfl) (hpl : (backTo pos (starEach es X.env)).any (·.1) = false := by rfl) :
    DE X C (.Call (.Name "tuple" p) (e :: es) [] pos) (tCB (uTuple K0) tr) (mCB tupleD mr) := by
  subst hK0
  exact (de_ct call_tuple_of (by rw [hK]; exact sim_tuple) hg hm (by decide +kernel) ha (he := he) (hpl := hpl))
theorem de_divmod (hg : Gl X "divmod") (hm : X.mg "divmod" = none) (ha : DA X C (e :: es) tr mr)
    (he : starEach (e :: es) X.env = (false, eval e X.env) :: starEach es X.env := by rfl) (hpl : (backTo pos (starEach es X.env)).any (·.1) = false := by rfl) :
    DE X C (.Call (.Name "divmod" p) (e :: es) [] pos) (tCB uDivmod tr) (mCB divmodD mr) := de_cb call_divmod sim_divmod hg hm (by decide +kernel) ha (he := he) (hpl := hpl)
/-- list(range(b)), list(range(a, b)) -/
def rgD (a b : Int) : List D := (List.range (b - a).toNat).map fun i => D.int (a + (i : Nat))
theorem Reps.rg {K : Fg} {H : Hp} (a b : Int) : Reps K H (rgV a b) (rgD a b) := by
  have h : ∀ l : List Nat, Reps K H (l.map fun i => V.int (a + (i : Nat))) (l.map fun i => D.int (a + (i : Nat))) := fun l => by
    induction l with
    | nil => exact .nil
    | cons x l ih => exact .cons (.int _) ih
  exact h _
def mRg1 (ma : DTE) : Env → (Int → Int → Env → Prop) → Prop := fun Γ Q => ma Γ fun r Γ1 => ∃ n, r = .val (.int n) ∧ Q 0 n Γ1
def mRg2 (ma mb : DTE) : Env → (Int → Int → Env → Prop) → Prop := fun Γ Q => ma Γ fun r Γ1 => mb Γ1 fun r2 Γ2 => ∃ i j, r = .val (.int i) ∧ r2 = .val (.int j) ∧ Q i j Γ2
def mLRg (mg : Env → (Int → Int → Env → Prop) → Prop) : DTE := fun Γ Q => mg Γ fun a b Γ1 => RgOk a b ∧ Q (.fr (.lst (rgD a b))) Γ1
def mTRg (mg : Env → (Int → Int → Env → Prop) → Prop) : DTE := fun Γ Q => mg Γ fun a b Γ1 => RgOk a b ∧ Q (.val (.tup (rgD a b))) Γ1
def DRg (X : Cx) (C : Ctx) (e : Expr) (t : L2.St → Hp → (Int → Int → Hp → Prop) → Prop) (m : Env → (Int → Int → Env → Prop) → Prop) : Prop := PRg X e t ∧ ∀ (Γ : Env) (O : List Addr) (σ : L2.St) (H : Hp) (Qd : Int → Int → Env → Prop) (Q : Int → Int → Hp → Prop), RelO C Γ O σ H → m Γ Qd →
  (∀ i j Γ' H', RelO C Γ' O σ H' → Same (hide O H) (hide O H') → Qd i j Γ' → Q i j H') → t σ H Q
theorem dr_1 (hg : Gl X "range") (hm : X.mg "range" = none) (ha : DE X C a ta ma) (na : starEach [a] X.env = (false, eval a X.env) :: starEach [] X.env := by rfl) : DRg X C (.Call (.Name "range" p) [a] [] pos) (tRg1 ta) (mRg1 ma) :=
  ⟨prg_1 hg hm ha.pe na, fun Γ O σ H Qd Q R h k => ha.sim Γ O σ H _ _ R h fun r Γ1 v H1 R1 e1 q1 => by
    obtain ⟨n, rfl, q⟩ := q1
    exact ⟨n, (show B2 C.K O H1 v (.int n) from .inl R1.2).int, k 0 n Γ1 H1 R1.rel e1.1 q⟩⟩
theorem de_listRg {tg : L2.St → Hp → (Int → Int → Hp → Prop) → Prop} {mg : Env → (Int → Int → Env → Prop) → Prop} (hc : X.calm = true) (hg : Gl X "list") (hm : X.mg "list" = none) (he : DRg X C e tg mg) (na : starEach [e] X.env = (false, eval e X.env) :: starEach [] X.env := by rfl) :
    DE X C (.Call (.Name "list" p) [e] [] pos) (tLstRg tg) (mLRg mg) := ⟨pe_listRg hc hg hm he.1 na, fun Γ O σ H Qd Q R h k => he.2 Γ O σ H _ _ R h fun i j Γ1 H1 R1 e1 q1 => ⟨q1.1, fun p hp => (outs_of R1 e1 k).new p _ _ hp (.lst (Reps.rg i j)) q1.2⟩⟩
end
end DL
/-! the data layer, part 5: what is walked, targets, comprehensions, statements -/
namespace DL
open PySem L2
/-! ### what a loop walks -/
/-- n turns that give the items; g: what must hold of the heap meanwhile -/
structure ItD (K : Fg) (J : It) (n : Nat) (g : List Addr → Hp → Prop) (items : List D) : Prop where
  len : items.length = n
  go : ∀ i O H, g O H → i < n → J.go i H
  stop : ∀ O H, g O H → J.stop n H
  yld : ∀ i O H x H', g O H → i < n → J.yld i H x H' → ∃ d, items[i]? = some d ∧ ((H' = H ∧ Rep K (hide O H) x d) ∨ ∃ p vs ds, x = .ref p ∧ H p = none ∧ H' = upd H p (.tup vs) ∧ Reps K (hide O H) vs ds ∧ d = .tup ds)
/-- where the items come from: nowhere; a shared datum; a place -/
inductive Src where
  | no
  | val (d : D)
  | pl (i : Nat) (d : D)
  | v2 (a b : D)
def SrcOk (C : Ctx) (Γ : Env) (O : List Addr) (σ : St) (H : Hp) (g : List Addr → Hp → Prop) : Src → Prop
  | .no => ∀ O' H', g O' H'
  | .val d => ∃ v, Rep C.K (hide O H) v d ∧ ∀ O' H', Rep C.K (hide O' H') v d → g O' H'
  | .pl i d => ∃ v, σ[i]? = some (some v) ∧ rd Γ (.pl i) = some d ∧ ∀ O' H', B2 C.K O' H' v d → g O' H'
  | .v2 a b => ∃ v w, Rep C.K (hide O H) v a ∧ Rep C.K (hide O H) w b ∧ ∀ O' H', Rep C.K (hide O' H') v a → Rep C.K (hide O' H') w b → g O' H'
abbrev DTI := Env → (Src → List D → Env → Prop) → Prop
def SimI (C : Ctx) (w : TI) (m : DTI) : Prop := ∀ (Γ : Env) (O : List Addr) (σ : St) (H : Hp) (Qd : Src → List D → Env → Prop) (R : It → Hp → Prop), RelO C Γ O σ H → m Γ Qd →
  (∀ src items Γ' J H' n g, RelO C Γ' O σ H' → Same (hide O H) (hide O H') → ItD C.K J n g items → SrcOk C Γ' O σ H' g src → Qd src items Γ' → R J H') → w σ H R
structure DI (X : Cx) (C : Ctx) (tg e : Expr) (w : TI) (m : DTI) : Prop where
  pi : PI X tg e w
  sim : SimI C w m
def srcOf (d : D) : Res → Src
  | .pl i => .pl i d
  | _ => .val d
def itemsOf : D → Option (List D)
  | .lst ds => some ds
  | .tup ds => some ds
  | _ => none
/-- for .. in e, e a list or a tuple -/
def mSeq (ma : DTE) : DTI := fun Γ Q => ma Γ fun r Γ1 => ∃ d ds, rd Γ1 r = some d ∧ itemsOf d = some ds ∧ Q (srcOf d r) ds Γ1
def iSeq (K : Fg) (tl : TE) : TI := fun σ H R => tl σ H fun x H1 => ∃ a, x = .ref a ∧ (((∃ xs, SqL K H1 a xs) ∧ R (Itl K a) H1) ∨ ((∃ xs, SqT K H1 a xs) ∧ R (Itt K a) H1))
section
variable {X : Cx} {C : Ctx} {tg l : Expr} {tl : TE} {ml : DTE} {pos p : Pos}
theorem pi_seq (hl : PE X l tl) : PI X tg l (iSeq X.K tl) := by
  refine ⟨fun pins s σ H R I h => ?_⟩
  refine thn (hl.run pins s σ H _ I h) fun v s1 ⟨x, H1, I1, r1, q1⟩ => ?_
  obtain ⟨a, e, q⟩ := q1
  subst e
  cases r1
  have fin : ∀ b ∈ [s1.heap.objs.size], FpOk X pins H1 b := fun b hb => by
    have e : b = s1.heap.objs.size := by simpa using hb
    subst e
    exact I1.fpOk (Nat.le_refl _) (I1.hok.fresh (Nat.le_refl _))
  rcases q with ⟨⟨xs, hq⟩, q⟩ | ⟨⟨xs, hq⟩, q⟩
  · obtain ⟨its, rv, pl, hz⟩ := I1.list hq
    exact wpAny_pyIter_list pl.isList ⟨_, [s1.heap.objs.size], _, _, H1, rfl, I1.kept (t' := s1.toks) fun b o e => Heap.get?_push_of_some _ e, turn_list a _, ⟨_, Heap.get?_push_size _ rfl, rfl, rfl⟩, fin, q⟩
  · obtain ⟨its, rv, pl, hz⟩ := I1.tuple hq
    exact wpAny_pyIter_tuple (show s1.heap.IsTuple a its.toArray from pl) ⟨_, [s1.heap.objs.size], _, _, H1, rfl, I1.kept (t' := s1.toks) fun b o e => Heap.get?_push_of_some _ e, turn_tuple a _, ⟨_, Heap.get?_push_size _ rfl, rfl, rfl⟩, fin, q⟩
theorem itd_list {K : Fg} {a : Addr} {ds : List D} : ItD K (Itl K a) ds.length (fun O H => B2 K O H (.ref a) (.lst ds)) ds where
  len := rfl
  go := fun i O H h hi => by
    obtain ⟨a', vs, e, h1, r⟩ := h.lst
    cases e
    have : i < vs.length := by rw [r.length]; exact hi
    exact ⟨vs, vs[i], SqL.of h1, by simp [this]⟩
  stop := fun O H h => by
    obtain ⟨a', vs, e, h1, r⟩ := h.lst
    cases e
    exact ⟨vs, SqL.of h1, by rw [r.length]; exact Nat.le_refl _⟩
  yld := fun i O H x H' h hi y => by
    obtain ⟨a', vs, e, h1, r⟩ := h.lst
    cases e
    obtain ⟨e, y⟩ := y
    obtain ⟨d, hd, hr⟩ := r.getV (y vs (SqL.of h1))
    exact ⟨d, hd, .inl ⟨e, hr⟩⟩
theorem itd_tup {K : Fg} {a : Addr} {ds : List D} : ItD K (Itt K a) ds.length (fun O H => B2 K O H (.ref a) (.tup ds)) ds where
  len := rfl
  go := fun i O H h hi => by
    obtain ⟨a', vs, e, h1, r⟩ := h.tup
    cases e
    have : i < vs.length := by rw [r.length]; exact hi
    exact ⟨vs, vs[i], SqT.of h1, by simp [this]⟩
  stop := fun O H h => by
    obtain ⟨a', vs, e, h1, r⟩ := h.tup
    cases e
    exact ⟨vs, SqT.of h1, by rw [r.length]; exact Nat.le_refl _⟩
  yld := fun i O H x H' h hi y => by
    obtain ⟨a', vs, e, h1, r⟩ := h.tup
    cases e
    obtain ⟨e, y⟩ := y
    obtain ⟨d, hd, hr⟩ := r.getV (y vs (SqT.of h1))
    exact ⟨d, hd, .inl ⟨e, hr⟩⟩
theorem src_of {C : Ctx} {Γ : Env} {O : List Addr} {σ : St} {H : Hp} {v : V} {d : D} {r : Res} {g : List Addr → Hp → Prop} (R : ROk C Γ O σ H v r) (hd : rd Γ r = some d) (hg : ∀ O' H', B2 C.K O' H' v d → g O' H') : SrcOk C Γ O σ H g (srcOf d r) := by
  cases r with
  | val d' => cases hd; exact ⟨v, R.2, fun O' H' h => hg O' H' (.inl h)⟩
  | fr d' => cases hd; exact ⟨v, R.2.rep, fun O' H' h => hg O' H' (.inl h)⟩
  | pl i => exact ⟨v, R.2, hd, hg⟩
theorem di_seq (h : DE X C l tl ml) {K0 : Fg} (hK0 : X.K = K0 := by rfl) (hK : K0 = C.K := by rfl) : DI X C tg l (iSeq K0 tl) (mSeq ml) := by
  subst hK0
  refine ⟨pi_seq h.pe, fun Γ O σ H Qd R hR hm k => ?_⟩
  refine h.sim Γ O σ H _ _ hR hm fun r Γ1 v H1 R1 e1 q1 => ?_
  obtain ⟨d, ds, hd, hi, q⟩ := q1
  have b := R1.pend.b2 R1.rel hd
  unfold itemsOf at hi
  split at hi
  · cases hi
    obtain ⟨a, vs, rfl, e, _⟩ := b.lst
    exact ⟨a, rfl, .inl ⟨⟨vs, SqL.of e⟩, by rw [hK]; exact k _ _ Γ1 _ H1 _ _ R1.rel e1.1 itd_list (src_of R1 hd fun _ _ h => h) q⟩⟩
  · cases hi
    obtain ⟨a, vs, rfl, e, _⟩ := b.tup
    exact ⟨a, rfl, .inr ⟨⟨vs, SqT.of e⟩, by rw [hK]; exact k _ _ Γ1 _ H1 _ _ R1.rel e1.1 itd_tup (src_of R1 hd fun _ _ h => h) q⟩⟩
  · cases hi
/-- range -/
def rngD (lo : Int) (n : Nat) : List D := (List.range n).map fun i => D.int (lo + (i : Nat))
theorem rngD_get {lo : Int} {n i : Nat} (h : i < n) : (rngD lo n)[i]? = some (.int (lo + i)) := by
  unfold rngD
  rw [List.getElem?_map, List.getElem?_range h]; rfl
theorem itd_rng {K : Fg} {lo : Int} {n : Nat} : ItD K (Itr lo n) n (fun _ _ => True) (rngD lo n) where
  len := by unfold rngD; rw [List.length_map, List.length_range]
  go := fun i O H _ hi => hi
  stop := fun O H _ => Nat.le_refl _
  yld := fun i O H x H' _ hi y => by
    obtain ⟨e, rfl⟩ := y
    exact ⟨_, rngD_get hi, .inl ⟨e, .int _⟩⟩
def mRng1 (ma : DTA) : DTI := fun Γ Q => ma Γ fun rs Γ1 => ∃ j : Int, rs = [.val (.int j)] ∧ (-(2 ^ 62) ≤ j ∧ j < 2 ^ 62) ∧ Q .no (rngD 0 j.toNat) Γ1
def mRng2 (ma : DTA) : DTI := fun Γ Q => ma Γ fun rs Γ1 => ∃ i j : Int, rs = [.val (.int i), .val (.int j)] ∧ (-(2 ^ 62) ≤ i ∧ i < 2 ^ 62 ∧ -(2 ^ 62) ≤ j ∧ j < 2 ^ 62) ∧ Q .no (rngD i (j - i).toNat) Γ1
theorem pend_int {K : Fg} {O : List Addr} {σ : St} {H : Hp} {v : V} {i : Int} (h : Pend K O σ H v (.val (.int i))) : v = .int i := (show B2 K O H v (.int i) from .inl h).int
theorem di_rng1 {a : Expr} {ta : TA} {ma : DTA} (hg : Gl X "range") (hm : X.mg "range" = none) (ha : DA X C [a] ta ma) (hs : starEach [a] X.env = [(false, eval a X.env)] := by rfl) : DI X C tg (.Call (.Name "range" p) [a] [] pos) (iRng1 ta) (mRng1 ma) :=
  ⟨pi_range1 hg hm ha.pa hs, fun Γ O σ H Qd R hR hm k => ha.sim Γ O σ H _ _ hR hm fun rs Γ1 vs H1 R1 p1 e1 q1 => by
    obtain ⟨j, rfl, ⟨h1, h2⟩, q⟩ := q1
    cases p1 with
    | cons a t =>
      cases t
      exact ⟨j, by rw [pend_int a], h1, h2, k .no _ Γ1 _ H1 _ _ R1 e1 itd_rng (fun _ _ => trivial) q⟩⟩
theorem di_rng2 {a b : Expr} {ta : TA} {ma : DTA} (hg : Gl X "range") (hm : X.mg "range" = none) (ha : DA X C [a, b] ta ma) (hs : starEach [a, b] X.env = [(false, eval a X.env), (false, eval b X.env)] := by rfl) (hs2 : starEach [b] X.env = [(false, eval b X.env)] := by rfl) : DI X C tg (.Call (.Name "range" p) [a, b] [] pos) (iRng2 ta) (mRng2 ma) :=
  ⟨pi_range2 hg hm ha.pa hs hs2, fun Γ O σ H Qd R hR hm k => ha.sim Γ O σ H _ _ hR hm fun rs Γ1 vs H1 R1 p1 e1 q1 => by
    obtain ⟨i, j, rfl, hb, q⟩ := q1
    cases p1 with
    | cons a t =>
      cases t with
      | cons b t =>
        cases t
        exact ⟨i, j, by rw [pend_int a, pend_int b], hb, k .no _ Γ1 _ H1 _ _ R1 e1 itd_rng (fun _ _ => trivial) q⟩⟩
end
/-! ### targets -/
abbrev DTG := D → Env → (Env → Prop) → Prop
abbrev DTGs := List D → Env → (Env → Prop) → Prop
def SimG (C : Ctx) (g : TG) (m : DTG) : Prop := ∀ (Γ : Env) (O : List Addr) (σ : St) (H : Hp) (v : V) (d : D) (Qd : Env → Prop) (Q : St → Hp → Prop), RelO C Γ O σ H → Rep C.K (hide O H) v d → m d Γ Qd →
  (∀ Γ' σ' H', RelO C Γ' O σ' H' → Same (hide O H) (hide O H') → Qd Γ' → Q σ' H') → g v σ H Q
def SimGs (C : Ctx) (g : TGs) (m : DTGs) : Prop := ∀ (Γ : Env) (O : List Addr) (σ : St) (H : Hp) (vs : List V) (ds : List D) (Qd : Env → Prop) (Q : St → Hp → Prop), RelO C Γ O σ H → Reps C.K (hide O H) vs ds → m ds Γ Qd →
  (∀ Γ' σ' H', RelO C Γ' O σ' H' → Same (hide O H) (hide O H') → Qd Γ' → Q σ' H') → g vs σ H Q
structure DG (X : Cx) (C : Ctx) (e : Expr) (g : TG) (m : DTG) : Prop where
  pg : PG X e g
  sim : SimG C g m
structure DGs (X : Cx) (C : Ctx) (es : List Expr) (g : TGs) (m : DTGs) : Prop where
  pgs : PGs X es g
  sim : SimGs C g m
def freeB (Γ : Env) (i : Nat) : Bool := match Γ[i]? with
  | some (.io _) => false
  | some (.bo _) => false
  | _ => true
theorem freeB_of {Γ : Env} {i : Nat} (h : freeB Γ i = true) : Free Γ i := by
  unfold freeB at h
  refine ⟨fun d e => ?_, fun d e => ?_⟩ <;> rw [e] at h <;> cases h
def mgName (i : Nat) : DTG := fun d Γ Q => freeB Γ i = true ∧ Q (Γ.set i (.sh d))
def mgNil : DTGs := fun ds Γ Q => ds = [] ∧ Q Γ
def mgCons (m : DTG) (ms : DTGs) : DTGs := fun ds Γ Q => ∃ d r, ds = d :: r ∧ m d Γ fun Γ1 => ms r Γ1 Q
def mgTup (n : Nat) (ms : DTGs) : DTG := fun d Γ Q => ∃ ds, d = .tup ds ∧ ds.length = n ∧ ms ds Γ Q
/-- x[i] = d, x a place -/
def setC (Γ : Env) (i : Nat) (d : D) : Option Env := match Γ[i]? with
  | some (.ow _) => some (Γ.set i (.ow d))
  | some (.io _) => some (Γ.set i (.io d))
  | _ => none
def putK (k : Key) (d : D) : List (Key × D) → List (Key × D)
  | [] => [(k, d)]
  | (j, e) :: r => if j = k then (j, d) :: r else (j, e) :: putK k d r
def stD : D → D → D → (D → Prop) → Prop
  | .lst ds, .int k, x, Q => ∃ j, ixN ds.length k = some j ∧ Q (.lst (ds.set j x))
  | _, _, _, _ => False
def mgSub (mo mi : DTE) (f : D → D → D → (D → Prop) → Prop) : DTG := fun d Γ Q => mo Γ fun ro Γ1 => mi Γ1 fun ri Γ2 => ∃ i c k, ro = .pl i ∧ cont Γ2[i]? = some c ∧ rd Γ2 ri = some k ∧ f c k d fun c' => ∃ Γ3, setC Γ2 i c' = some Γ3 ∧ Q Γ3
section
variable {X : Cx} {C : Ctx} {pos : Pos} {g : TG} {m : DTG}
theorem sim_gName (i : Nat) : SimG C (gName i) (mgName i) := fun Γ O σ H v d Qd Q R r h k => k _ _ H (R.setSh (freeB_of h.1) r) (L2.Same.refl _) h.2
theorem sim_gNil : SimGs C gNil mgNil := fun Γ O σ H vs ds Qd Q R r h k => by
  obtain ⟨rfl, h⟩ := h
  cases r
  exact ⟨rfl, k _ _ H R (L2.Same.refl _) h⟩
theorem sim_gCons {gs : TGs} {ms : DTGs} (h1 : SimG C g m) (h2 : SimGs C gs ms) : SimGs C (gCons g gs) (mgCons m ms) := fun Γ O σ H vs ds Qd Q R r h k => by
  obtain ⟨d, ds', rfl, h⟩ := h
  cases r with
  | cons r rr =>
    exact ⟨_, _, rfl, h1 Γ O σ H _ d _ _ R r h fun Γ1 σ1 H1 R1 e1 q1 => h2 Γ1 O σ1 H1 _ ds' _ _ R1 (rr.mono e1) q1 fun Γ2 σ2 H2 R2 e2 q2 => k Γ2 σ2 H2 R2 (L2.Same.trans e1 e2) q2⟩
theorem sim_gTup {n : Nat} {gs : TGs} {ms : DTGs} (h2 : SimGs C gs ms) : SimG C (gTup C.K n gs) (mgTup n ms) := fun Γ O σ H v d Qd Q R r h k => by
  obtain ⟨ds, rfl, hl, h⟩ := h
  obtain ⟨a, vs, rfl, e, rr⟩ := (show B2 C.K O H v (.tup ds) from .inl r).tup
  exact ⟨a, vs, rfl, SqT.of e, by rw [rr.length]; exact hl, h2 Γ O σ H vs ds _ _ R rr h k⟩
theorem set_relO {Γ Γ' : Env} {O : List Addr} {σ : St} {H : Hp} {i : Nat} {l : Addr} {d : D} {o : HO} (R : RelO C Γ O σ H) (hs : setC Γ i d = some Γ') (hl : σ[i]? = some (some (.ref l))) (ho : OwnOk C.K (hide O H) o d) : RelO C Γ' O σ (upd H l o) ∧ Same (hide O H) (hide O (upd H l o)) := by
  unfold setC at hs
  split at hs
  · rename_i d0 e
    cases hs
    have hO : l ∈ O := R.mutIn ⟨⟨d0, .inl e⟩, hl⟩
    refine ⟨R.mut e (.inl ⟨rfl, d, rfl⟩) hl fun d' h => ?_, by rw [hide_mut hO]; exact L2.Same.refl _⟩
    rcases h with h | h <;> cases h; exact ho
  · rename_i d0 e
    cases hs
    have hO : l ∈ O := R.mutIn ⟨⟨d0, .inr e⟩, hl⟩
    refine ⟨R.mut e (.inr ⟨rfl, d, rfl⟩) hl fun d' h => ?_, by rw [hide_mut hO]; exact L2.Same.refl _⟩
    rcases h with h | h <;> cases h; exact ho
  · cases hs
theorem place_at {Γ Γ' : Env} {O : List Addr} {σ : St} {H : Hp} {i : Nat} {c d : D} {v : V} (R : RelO C Γ O σ H) (hs : setC Γ i d = some Γ') (hv : σ[i]? = some (some v)) (hc : cont Γ[i]? = some c) : ∃ l o, v = .ref l ∧ H l = some o ∧ OwnOk C.K (hide O H) o c := by
  unfold setC at hs
  split at hs
  · rename_i d0 e
    rw [e] at hc
    cases hc
    obtain ⟨l, o, h1, h2, h3, h4, h5⟩ := R.sl i _ e
    rw [hv] at h1; cases h1
    exact ⟨l, o, rfl, h4, h5⟩
  · rename_i d0 e
    rw [e] at hc
    cases hc
    obtain ⟨l, o, h1, h2, h3, h4, h5⟩ := R.sl i _ e
    rw [hv] at h1; cases h1
    exact ⟨l, o, rfl, h4, h5⟩
  · cases hs
theorem sim_gSub {to ti : TE} {mo mi : DTE} (ho : SimE C to mo) (hi : SimE C ti mi) : SimG C (gSub to ti rSetL) (mgSub mo mi stD) := fun Γ O σ H v d Qd Q R r h k => by
  refine ho Γ O σ H _ _ R h fun ro Γ1 o H1 R1 e1 q1 => ?_
  refine hi Γ1 O σ H1 _ _ R1.rel q1 fun ri Γ2 iv H2 R2 e2 q2 => ?_
  obtain ⟨i, c, kd, rfl, hc, hk, q⟩ := q2
  have hi := R2.pend.b2 R2.rel hk
  unfold stD at q
  split at q
  · obtain ⟨j, hj, Γ3, hs, q⟩ := q
    obtain ⟨l, ob, rfl, hl, hb⟩ := place_at R2.rel hs R1.2 hc
    cases hb with
    | lst rr =>
      rename_i vs
      obtain ⟨R3, e3⟩ := set_relO (o := .lst (vs.set j v)) R2.rel hs R1.2 (.lst (rr.set (r.mono (L2.Same.trans e1.1 e2.1)) j))
      exact ⟨l, vs, _, j, rfl, hi.int, hl, by rw [rr.length]; exact hj, k Γ3 σ _ R3 (L2.Same.trans e1.1 (L2.Same.trans e2.1 e3)) q⟩
  · exact q.elim
theorem dg_name (i : Nat) {x : Str} (h : PG X (.Name x pos) (gName i)) : DG X C (.Name x pos) (gName i) (mgName i) := ⟨h, sim_gName i⟩
theorem dgs_nil : DGs X C [] gNil mgNil := ⟨pgs_nil, sim_gNil⟩
theorem dgs_cons {e : Expr} {es : List Expr} {gs : TGs} {ms : DTGs} (h1 : DG X C e g m) (h2 : DGs X C es gs ms) (hs : (assignEach (e :: es) X.env).map (·.2) = assign e X.env :: (assignEach es X.env).map (·.2) := by rfl) : DGs X C (e :: es) (gCons g gs) (mgCons m ms) := ⟨pgs_cons h1.pg h2.pgs hs, sim_gCons h1.sim h2.sim⟩
theorem dg_tup {es : List Expr} {k : Nat} {gs : TGs} {ms : DTGs} {n : Nat} (hc : X.calm = true) (h : DGs X C es gs ms) (hn : (assignEach es X.env).length = n := by rfl) (hst : (assignEach es X.env).findIdx? (·.1) = none := by rfl) {K0 : Fg} (hK0 : X.K = K0 := by rfl) (hK : K0 = C.K := by rfl) : DG X C (.Tuple es k pos) (gTup K0 n gs) (mgTup n ms) := by
  subst hK0
  exact (⟨pg_tup hc h.pgs hn hst, by rw [hK]; exact sim_gTup h.sim⟩)
theorem dg_sub {o i : Expr} {to ti : TE} {mo mi : DTE} (h : PE X o to → PE X i ti → PG X (.Subscript o i pos) (gSub to ti rSetL)) (ho : DE X C o to mo) (hi : DE X C i ti mi) : DG X C (.Subscript o i pos) (gSub to ti rSetL) (mgSub mo mi stD) := ⟨h ho.pe hi.pe, sim_gSub ho.sim hi.sim⟩
end
end DL
/-! the data layer, part 6: comprehensions -/
namespace DL
open PySem L2
section
variable {C : Ctx} {Γ : Env} {O : List Addr} {σ : St} {H : Hp} {p : Addr} {o o' : HO}
theorem RelO.congrU {U : List (Addr × HO)} (R : RelO C Γ O σ H) (h : ∀ q ∈ U, H q.1 = some q.2 ∧ q.1 ∈ O ∧ ∀ i, ¬ MutAt Γ σ i q.1) : RelO { C with U := U } Γ O σ H :=
  ⟨fun i s e => by have := R.sl i s e; cases s <;> exact this, R.ds, R.fr, R.mm, R.bb, R.oo, R.al, R.ol, R.o0, R.tt, h, R.len⟩
theorem RelO.subU {U U' : List (Addr × HO)} (R : RelO { C with U := U } Γ O σ H) (h : ∀ q, q ∈ U' → q ∈ U) : RelO { C with U := U' } Γ O σ H :=
  RelO.congrU (C := { C with U := U }) R fun q hq => R.uu q (h q hq)
theorem RelO.backU {U : List (Addr × HO)} (R : RelO { C with U := U } Γ O σ H) (h : ∀ q, q ∈ C.U → q ∈ U) : RelO C Γ O σ H := R.subU (U' := C.U) h
theorem RelO.congrT {T : List (V × D)} (R : RelO C Γ O σ H) (h : ∀ q ∈ T, Rep C.K (hide O H) q.1 q.2) : RelO { C with T := T } Γ O σ H :=
  ⟨fun i s e => by have := R.sl i s e; cases s <;> exact this, R.ds, R.fr, R.mm, R.bb, R.oo, R.al, R.ol, R.o0, h, R.uu, R.len⟩
theorem RelO.backT {T : List (V × D)} (R : RelO { C with T := T } Γ O σ H) (h : ∀ q, q ∈ C.T → q ∈ T) : RelO C Γ O σ H :=
  RelO.congrT (C := { C with T := T }) R fun q hq => R.tt q (h q hq)
/-- an owned object that no slot holds changes -/
theorem RelO.updFree (R : RelO C Γ O σ H) (hp : p ∈ O) (h0 : C.H0 p = none) (hm : ∀ i, ¬ MutAt Γ σ i p) (hu : ∀ q ∈ C.U, q.1 ≠ p) : RelO C Γ O σ (upd H p o) := by
  have eH : hide O (upd H p o) = hide O H := hide_mut hp
  refine ⟨fun i s e => ?_, R.ds, fun a u e n => ?_, R.mm, R.bb, R.oo, fun a ha => ?_, R.ol, R.o0, fun q hq => by rw [eH]; exact R.tt q hq, fun q hq => ⟨by rw [upd_ne (hu q hq)]; exact (R.uu q hq).1, (R.uu q hq).2⟩, R.len⟩
  · have q := R.sl i s e
    cases s with
    | no => trivial
    | sh d => obtain ⟨v, h1, h2⟩ := q; exact ⟨v, h1, by rw [eH]; exact h2⟩
    | ow d => obtain ⟨l, u, h1, h2, h3, h4, h5⟩ := q; exact ⟨l, u, h1, h2, h3, by rw [upd_ne fun z => hm i ⟨⟨d, .inl e⟩, by rw [← z]; exact h1⟩]; exact h4, by rw [eH]; exact h5⟩
    | io d => obtain ⟨l, u, h1, h2, h3, h4, h5⟩ := q; exact ⟨l, u, h1, h2, h3, by rw [upd_ne fun z => hm i ⟨⟨d, .inr e⟩, by rw [← z]; exact h1⟩]; exact h4, by rw [eH]; exact h5⟩
    | bo d => obtain ⟨v, h1, h2, h3⟩ := q; exact ⟨v, h1, h2, by rw [eH]; exact h3⟩
  · have hne : a ≠ p := fun z => by rw [z, h0] at e; cases e
    rw [upd_ne hne]; exact R.fr a u e n
  · by_cases z : a = p
    · rw [z, upd_same]; intro q; cases q
    · rw [upd_ne z]; exact R.al a ha
/-- an owned address is let go -/
theorem RelO.letgo (R : RelO C Γ O σ H) (h0 : C.H0 p = none) (hm : ∀ i, ¬ MutAt Γ σ i p) (hu : ∀ q ∈ C.U, q.1 ≠ p) {O' : List Addr} (ho : ∀ a, a ∈ O' ↔ a ∈ O ∧ a ≠ p) : RelO C Γ O' σ H ∧ Same (hide O H) (hide O' H) := by
  have e : Same (hide O H) (hide O' H) := hide_sub fun a h => ((ho a).mp h).1
  refine ⟨⟨fun i s es => ?_, R.ds, R.fr, R.mm, R.bb, fun a ha => (ho a).mpr ⟨R.oo a ha, fun z => R.o0 a ha (by rw [z]; exact h0)⟩, fun a ha => R.al a ((ho a).mp ha).1, fun a ha => R.ol a ((ho a).mp ha).1, R.o0, fun q hq => (R.tt q hq).mono e, fun q hq => ⟨(R.uu q hq).1, (ho _).mpr ⟨(R.uu q hq).2.1, hu q hq⟩, (R.uu q hq).2.2⟩, R.len⟩, e⟩
  have q := R.sl i s es
  cases s with
  | no => trivial
  | sh d => obtain ⟨v, h1, h2⟩ := q; exact ⟨v, h1, h2.mono e⟩
  | ow d => obtain ⟨l, u, h1, h2, h3, h4, h5⟩ := q; exact ⟨l, u, h1, (ho l).mpr ⟨h2, fun z => hm i ⟨⟨d, .inl es⟩, by rw [← z]; exact h1⟩⟩, h3, h4, h5.mono e⟩
  | io d => obtain ⟨l, u, h1, h2, h3, h4, h5⟩ := q; exact ⟨l, u, h1, h2, (ho l).mpr ⟨h3, fun z => hm i ⟨⟨d, .inr es⟩, by rw [← z]; exact h1⟩⟩, h4, h5.mono e⟩
  | bo d =>
    obtain ⟨v, h1, h2, h3⟩ := q
    refine ⟨v, h1, h2, ?_⟩
    rcases h3 with h3 | ⟨l, u, h3, h4, h5, h6⟩
    · exact .inl (h3.mono e)
    · exact .inr ⟨l, u, h3, h4, h5, h6.mono e⟩
end
/-! ### the slots of a comprehension's own names -/
def wipeD (Γ : Env) : List Nat → Env
  | [] => Γ
  | v :: vs => (wipeD Γ vs).set v .no
def restD (Γ Δ : Env) : List Nat → Env
  | [] => Δ
  | v :: vs => (restD Γ Δ vs).set v ((Γ[v]?).getD .no)
def okOwn (Γ : Env) : List Nat → Bool
  | [] => true
  | v :: vs => (match Γ[v]? with
    | some .no => true
    | some (.sh _) => true
    | _ => false) && okOwn Γ vs
theorem okOwn_at {Γ : Env} : ∀ {vs : List Nat} {i : Nat}, okOwn Γ vs = true → i ∈ vs → Γ[i]? = some .no ∨ ∃ d, Γ[i]? = some (.sh d)
  | [], _, _, h => absurd h (by simp)
  | v :: vs, i, e, h => by
    unfold okOwn at e
    rw [Bool.and_eq_true] at e
    rcases List.mem_cons.mp h with z | z
    · subst z
      have e1 := e.1
      split at e1
      · rename_i q; exact .inl q
      · rename_i d q; exact .inr ⟨d, q⟩
      · cases e1
    · exact okOwn_at e.2 z
theorem wipeD_get {Γ : Env} : ∀ {vs : List Nat} {i : Nat} {s : Sl}, (wipeD Γ vs)[i]? = some s → s = .no ∨ Γ[i]? = some s
  | [], _, _, h => .inr h
  | v :: vs, i, s, h => by
    unfold wipeD at h
    by_cases e : v = i
    · subst e
      exact .inl (get_set_same h).symm
    · rw [get_set_ne e] at h
      exact wipeD_get h
theorem restD_len {Γ Δ : Env} : ∀ vs : List Nat, (restD Γ Δ vs).length = Δ.length
  | [] => rfl
  | v :: vs => by unfold restD; rw [List.length_set, restD_len vs]
theorem restD_out {Γ Δ : Env} : ∀ {vs : List Nat} {i : Nat}, i ∉ vs → (restD Γ Δ vs)[i]? = Δ[i]?
  | [], _, _ => rfl
  | v :: vs, i, h => by
    unfold restD
    rw [get_set_ne fun e => h (by simp [e])]
    exact restD_out fun z => h (List.mem_cons_of_mem _ z)
theorem restD_in {Γ Δ : Env} : ∀ {vs : List Nat} {i : Nat} {s : Sl}, i ∈ vs → (restD Γ Δ vs)[i]? = some s → s = (Γ[i]?).getD .no
  | [], _, _, h, _ => absurd h (by simp)
  | v :: vs, i, s, h, e => by
    unfold restD at e
    by_cases z : v = i
    · subst z
      exact (get_set_same e).symm
    · rw [get_set_ne z] at e
      rcases List.mem_cons.mp h with q | q
      · exact absurd q.symm z
      · exact restD_in q e
section
variable {C : Ctx} {Γ Δ : Env} {O : List Addr} {σ σ2 : St} {H H' : Hp}
theorem RelO.wipe (R : RelO C Γ O σ H) : ∀ {vs : List Nat}, okOwn Γ vs = true → RelO C (wipeD Γ vs) O (L2.wipe σ vs) H
  | [], _ => R
  | v :: vs, h => by
    have h2 : okOwn Γ vs = true := by
      unfold okOwn at h
      rw [Bool.and_eq_true] at h
      exact h.2
    refine (RelO.wipe R h2).setNo ⟨fun d e => ?_, fun d e => ?_⟩ none
    · rcases wipeD_get e with q | q
      · cases q
      · rcases okOwn_at h List.mem_cons_self with z | ⟨_, z⟩ <;> rw [q] at z <;> cases z
    · rcases wipeD_get e with q | q
      · cases q
      · rcases okOwn_at h List.mem_cons_self with z | ⟨_, z⟩ <;> rw [q] at z <;> cases z
theorem RelO.rest {vs : List Nat} (R0 : RelO C Γ O σ H) (e : Same (hide O H) (hide O H')) (R : RelO C Δ O σ2 H') (hw : L2.wipe σ2 vs = L2.wipe σ vs) (hk : okOwn Γ vs = true) : RelO C (restD Γ Δ vs) O σ H' := by
  have same : ∀ {j : Nat}, j ∉ vs → σ[j]? = σ2[j]? := fun {j} h => by rw [← wipe_out h, ← hw, wipe_out h]
  have lenS : σ2.length = σ.length := by rw [← L2.wipe_length σ2 vs, hw, L2.wipe_length]
  have mutd : ∀ j a, MutAt (restD Γ Δ vs) σ j a → MutAt Δ σ2 j a := fun j a ⟨⟨d, h⟩, h2⟩ => by
    by_cases hj : j ∈ vs
    · exfalso
      rcases h with h | h
      · have q := restD_in hj h
        rcases okOwn_at hk hj with z | ⟨_, z⟩ <;> rw [z] at q <;> cases q
      · have q := restD_in hj h
        rcases okOwn_at hk hj with z | ⟨_, z⟩ <;> rw [z] at q <;> cases q
    · rw [restD_out hj] at h
      exact ⟨⟨d, h⟩, by rw [← same hj]; exact h2⟩
  have out : ∀ {j : Nat} {d : D}, (Γ[j]? = some (.io d) ∨ Γ[j]? = some (.bo d)) → j ∉ vs := fun {j d} h z => by
    rcases okOwn_at hk z with q | ⟨_, q⟩ <;> rcases h with h | h <;> rw [h] at q <;> cases q
  refine ⟨fun j s h => ?_, fun i j a n h1 h2 => R.ds i j a n (mutd _ _ h1) (mutd _ _ h2), R.fr, fun q hq => ?_, fun q hq => ?_, R.oo, R.al, R.ol, R.o0, R.tt, fun q hq => ⟨(R.uu q hq).1, (R.uu q hq).2.1, fun j hj => (R.uu q hq).2.2 j (mutd _ _ hj)⟩, by rw [restD_len, R.len, lenS]⟩
  · by_cases hj : j ∈ vs
    · have q := restD_in hj h
      rcases okOwn_at hk hj with z | ⟨d, z⟩
      · rw [z] at q; subst q; trivial
      · rw [z] at q
        subst q
        obtain ⟨v, h1, h2⟩ := R0.sl j _ z
        exact ⟨v, h1, h2.mono e⟩
    · rw [restD_out hj] at h
      have q := R.sl j s h
      have es := same hj
      cases s with
      | no => trivial
      | sh d => unfold SlOk at q ⊢; rw [es]; exact q
      | ow d => unfold SlOk at q ⊢; rw [es]; exact q
      | io d => unfold SlOk at q ⊢; rw [es]; exact q
      | bo d => unfold SlOk at q ⊢; rw [es]; exact q
  · obtain ⟨d, h⟩ := (R0.mm q hq).2
    have ho := out (.inl h)
    exact ⟨(R0.mm q hq).1, by rw [restD_out ho]; exact (R.mm q hq).2⟩
  · obtain ⟨d, h⟩ := (R0.bb q hq).2
    have ho := out (.inr h)
    exact ⟨(R0.bb q hq).1, by rw [restD_out ho]; exact (R.bb q hq).2⟩
end
/-- what a source asks at each turn -/
def srcD (Γ : Env) : Src → Prop
  | .pl i d => rd Γ (.pl i) = some d
  | _ => True
def compM (src : Src) (mg : DTG) (mt : DTT) (me : DTE) (vs : List Nat) (Q : List D → Env → Prop) : List D → List D → Env → Prop
  | [], acc, Γ => srcD Γ src ∧ Q acc Γ
  | x :: xs, acc, Γ => srcD Γ src ∧ okOwn Γ vs = true ∧ mg x (wipeD Γ vs) fun Γ2 => mt Γ2 fun b Γ3 =>
      if b = true then me Γ3 fun r Γ4 => ∃ d, dat r = some d ∧ acc.length < 100000 ∧ compM src mg mt me vs Q xs (acc ++ [d]) (restD Γ Γ4 vs) else compM src mg mt me vs Q xs acc (restD Γ Γ3 vs)
def mComp (mi : DTI) (mg : DTG) (mt : DTT) (me : DTE) (vs : List Nat) : DTE := fun Γ Q => mi Γ fun src items Γ1 => compM src mg mt me vs (fun acc Γ2 => Q (.fr (.lst acc)) Γ2) items [] Γ1
/-- a target stores to the own names alone -/
def OwnG (g : TG) (vs : List Nat) : Prop := ∀ (v : V) (σ : St) (H : Hp) (Q : St → Hp → Prop), g v σ H Q → g v σ H fun σ' H' => L2.wipe σ' vs = L2.wipe σ vs ∧ Q σ' H'
def OwnGs (g : TGs) (vs : List Nat) : Prop := ∀ (v : List V) (σ : St) (H : Hp) (Q : St → Hp → Prop), g v σ H Q → g v σ H fun σ' H' => L2.wipe σ' vs = L2.wipe σ vs ∧ Q σ' H'
theorem wipe_set {σ : St} {x : Option V} : ∀ {vs : List Nat} {i : Nat}, i ∈ vs → L2.wipe (σ.set i x) vs = L2.wipe σ vs
  | [], _, h => absurd h (by simp)
  | v :: vs, i, h => by
    by_cases e : i ∈ vs
    · unfold L2.wipe
      rw [wipe_set e]
    · have : i = v := by
        rcases List.mem_cons.mp h with z | z
        · exact z
        · exact absurd z e
      subst this
      unfold L2.wipe
      have comm : ∀ {ws : List Nat}, i ∉ ws → L2.wipe (σ.set i x) ws = (L2.wipe σ ws).set i x := fun {ws} => by
        induction ws with
        | nil => intro _; rfl
        | cons w ws ih =>
          intro hn
          unfold L2.wipe
          rw [ih fun z => hn (List.mem_cons_of_mem _ z)]
          exact List.set_comm _ _ (fun z => hn (by simp [z]))
      rw [comm e, List.set_set]
theorem own_name {i : Nat} {vs : List Nat} (h : i ∈ vs) : OwnG (gName i) vs := fun v σ H Q q => ⟨wipe_set h, q⟩
theorem own_nil {vs : List Nat} : OwnGs gNil vs := fun v σ H Q q => ⟨q.1, rfl, q.2⟩
theorem own_cons {g : TG} {gs : TGs} {vs : List Nat} (h1 : OwnG g vs) (m1 : ∀ (v : V) (σ : St) (H : Hp) (Q Q' : St → Hp → Prop), (∀ σ H, Q σ H → Q' σ H) → g v σ H Q → g v σ H Q') (m2 : ∀ (v : List V) (σ : St) (H : Hp) (Q Q' : St → Hp → Prop), (∀ σ H, Q σ H → Q' σ H) → gs v σ H Q → gs v σ H Q') (h2 : OwnGs gs vs) : OwnGs (gCons g gs) vs := fun v σ H Q q => by
  obtain ⟨x, r, e, q⟩ := q
  refine ⟨x, r, e, m1 _ _ _ _ _ (fun σ1 H1 q1 => ?_) (h1 _ _ _ _ q)⟩
  obtain ⟨ew, q1⟩ := q1
  exact m2 _ _ _ _ _ (fun σ2 H2 q2 => ⟨q2.1.trans ew, q2.2⟩) (h2 _ _ _ _ q1)
theorem own_tup {K : Fg} {n : Nat} {gs : TGs} {vs : List Nat} (h : OwnGs gs vs) : OwnG (gTup K n gs) vs := fun v σ H Q q => by
  obtain ⟨a, xs, e, h1, h2, q⟩ := q
  exact ⟨a, xs, e, h1, h2, h _ _ _ _ q⟩
theorem mono_name {i : Nat} (v : V) (σ : St) (H : Hp) (Q Q' : St → Hp → Prop) (k : ∀ σ H, Q σ H → Q' σ H) (h : gName i v σ H Q) : gName i v σ H Q' := k _ _ h
theorem mono_nil (v : List V) (σ : St) (H : Hp) (Q Q' : St → Hp → Prop) (k : ∀ σ H, Q σ H → Q' σ H) (h : gNil v σ H Q) : gNil v σ H Q' := ⟨h.1, k _ _ h.2⟩
theorem mono_cons {g : TG} {gs : TGs} (m1 : ∀ (v : V) (σ : St) (H : Hp) (Q Q' : St → Hp → Prop), (∀ σ H, Q σ H → Q' σ H) → g v σ H Q → g v σ H Q') (m2 : ∀ (v : List V) (σ : St) (H : Hp) (Q Q' : St → Hp → Prop), (∀ σ H, Q σ H → Q' σ H) → gs v σ H Q → gs v σ H Q') (v : List V) (σ : St) (H : Hp) (Q Q' : St → Hp → Prop) (k : ∀ σ H, Q σ H → Q' σ H) (h : gCons g gs v σ H Q) : gCons g gs v σ H Q' := by
  obtain ⟨x, r, e, q⟩ := h
  exact ⟨x, r, e, m1 _ _ _ _ _ (fun _ _ q1 => m2 _ _ _ _ _ k q1) q⟩
theorem mono_tup {K : Fg} {n : Nat} {gs : TGs} (m2 : ∀ (v : List V) (σ : St) (H : Hp) (Q Q' : St → Hp → Prop), (∀ σ H, Q σ H → Q' σ H) → gs v σ H Q → gs v σ H Q') (v : V) (σ : St) (H : Hp) (Q Q' : St → Hp → Prop) (k : ∀ σ H, Q σ H → Q' σ H) (h : gTup K n gs v σ H Q) : gTup K n gs v σ H Q' := by
  obtain ⟨a, xs, e, h1, h2, q⟩ := h
  exact ⟨a, xs, e, h1, h2, m2 _ _ _ _ _ k q⟩
section
variable {C : Ctx}
/-- the readable source, at any later heap -/
theorem SrcOk.at {Γ Γ' : Env} {O O' : List Addr} {σ : St} {H H' : Hp} {g : List Addr → Hp → Prop} {src : Src} (h : SrcOk C Γ O σ H g src) (e : Same (hide O H) (hide O' H')) (R : RelO C Γ' O' σ H') (hd : srcD Γ' src) : g O' H' := by
  cases src with
  | no => exact h O' H'
  | val d =>
    obtain ⟨v, h1, h2⟩ := h
    exact h2 O' H' (h1.mono e)
  | v2 a b =>
    obtain ⟨v, w, h1, h1', h2⟩ := h
    exact h2 O' H' (h1.mono e) (h1'.mono e)
  | pl i d =>
    obtain ⟨v, h1, _, h2⟩ := h
    exact h2 O' H' (Pend.b2 (r := .pl i) R h1 hd)
theorem sim_comp {wi : TI} {g : TG} {tt : TT} {te : TE} {vs : List Nat} {mi : DTI} {mg : DTG} {mt : DTT} {me : DTE} (hi : SimI C wi mi) (hg : ∀ U, SimG { C with U := U } g mg) (hgo : OwnG g vs) (ht : ∀ U, SimT { C with U := U } tt mt) (he : ∀ U, SimE { C with U := U } te me)
    (hgm : ∀ (v : V) (σ : St) (H : Hp) (Q Q' : St → Hp → Prop), (∀ σ H, Q σ H → Q' σ H) → g v σ H Q → g v σ H Q') : SimE C (tLc wi g tt te vs) (mComp mi mg mt me vs) := fun Γ O σ H Qd Q R h k => by
  refine hi Γ O σ H _ _ R h fun src items Γ1 J H1 n gg R1 e1 itd sok q => ?_
  intro Dd hD
  have h0 : C.H0 Dd = none := R1.fresh0 hD
  have hDO : Dd ∉ O := R1.notin hD
  have hU : ∀ q ∈ C.U, q.1 ≠ Dd := fun q hq => ne_of_none (R1.uu q hq).1 hD
  have hM1 : ∀ i, ¬ MutAt Γ1 σ i Dd := fun i hm => hDO (R1.mutIn hm)
  -- the invariant
  let Wp : Nat → Nat → Hp → Prop := fun i m Hc => m = n - i ∧ i ≤ n ∧ ∃ (acc : List D) (vacc : List V) (Γi : Env), RelO { C with U := (Dd, .lst vacc) :: C.U } Γi (Dd :: O) σ Hc ∧ Same (hide O H1) (hide (Dd :: O) Hc) ∧ Reps C.K (hide (Dd :: O) Hc) vacc acc ∧
    compM src mg mt me vs (fun acc Γ2 => Qd (.fr (.lst acc)) Γ2) (items.drop i) acc Γi
  refine ⟨Wp, ⟨n, by simp, Nat.zero_le _, [], [], Γ1, ?_, hide_newO hD, .nil, q⟩, ?_⟩
  · refine (R1.allocO hD).congrU fun q hq => ?_
    rcases List.mem_cons.mp hq with z | z
    · subst z; exact ⟨upd_same, List.mem_cons_self, hM1⟩
    · exact (R1.allocO hD).uu q z
  rintro i m Hc ⟨rfl, hin, acc, vacc, Γi, Ri, ei, ri, qi⟩
  have RC : RelO C Γi (Dd :: O) σ Hc := Ri.backU fun q hq => List.mem_cons_of_mem _ hq
  have hDc : Hc Dd = some (.lst vacc) := (Ri.uu _ List.mem_cons_self).1
  have hDm : ∀ i, ¬ MutAt Γi σ i Dd := (Ri.uu _ List.mem_cons_self).2.2
  by_cases hlt : i < n
  · have hil : i < items.length := by rw [itd.len]; exact hlt
    have ed : items.drop i = items[i] :: items.drop (i + 1) := List.drop_eq_getElem_cons hil
    rw [ed] at qi
    obtain ⟨hs, hk, qi⟩ := qi
    have gi : gg (Dd :: O) Hc := sok.at ei RC hs
    refine .inr ⟨itd.go i _ _ gi hlt, fun H' => Wp (i + 1) (n - (i + 1)) H', fun H' w => ⟨n - (i + 1), by omega, w⟩, fun x H' y => ?_⟩
    obtain ⟨d, hd, hx⟩ := itd.yld i _ _ x H' gi hlt y
    have hdi : d = items[i] := by
      rw [List.getElem?_eq_getElem hil] at hd
      exact (Option.some.inj hd).symm
    have st : RelO { C with U := (Dd, .lst vacc) :: C.U } Γi (Dd :: O) σ H' ∧ Rep C.K (hide (Dd :: O) H') x d ∧ Same (hide (Dd :: O) Hc) (hide (Dd :: O) H') := by
      rcases hx with ⟨rfl, hx⟩ | ⟨p, pvs, pds, rfl, hp, rfl, hr, rfl⟩
      · exact ⟨Ri, hx, L2.Same.refl _⟩
      · exact ⟨Ri.alloc hp, .tup (by rw [hide_out (Ri.notin hp)]; exact upd_same) (hr.mono (hide_new hp)), hide_new hp⟩
    obtain ⟨R', r', e'⟩ := st
    rw [← hdi] at qi
    refine hgm _ _ _ _ _ (fun σ2 H2 q2 => ?_) (hgo _ _ _ _ (hg _ (wipeD Γi vs) (Dd :: O) (L2.wipe σ vs) H' x d _ (fun σ2 H2 => ∃ Γ2, RelO { C with U := (Dd, .lst vacc) :: C.U } Γ2 (Dd :: O) σ2 H2 ∧ Same (hide (Dd :: O) H') (hide (Dd :: O) H2) ∧ mt Γ2 fun b Γ3 =>
        if b = true then me Γ3 fun r Γ4 => ∃ d, dat r = some d ∧ acc.length < 100000 ∧ compM src mg mt me vs (fun acc Γ2 => Qd (.fr (.lst acc)) Γ2) (items.drop (i + 1)) (acc ++ [d]) (restD Γi Γ4 vs) else compM src mg mt me vs (fun acc Γ2 => Qd (.fr (.lst acc)) Γ2) (items.drop (i + 1)) acc (restD Γi Γ3 vs))
        (R'.wipe hk) r' qi fun Γ2 σ2 H2 R2 e2 q2 => ⟨Γ2, R2, e2, q2⟩))
    obtain ⟨hw, Γ2, R2, e2, q2⟩ := q2
    have idem : ∀ (τ : St) (ws : List Nat), (∀ j ∈ ws, j ∈ vs) → L2.wipe (L2.wipe τ ws) ws = L2.wipe τ ws := by
      intro τ ws _
      induction ws with
      | nil => rfl
      | cons w ws ih =>
        show (L2.wipe ((L2.wipe τ ws).set w none) ws).set w none = (L2.wipe τ ws).set w none
        by_cases hww : w ∈ ws
        · rw [wipe_set hww, ih (fun j hj => by rename_i hsub; exact hsub j (List.mem_cons_of_mem _ hj))]
        · have comm : ∀ {us : List Nat} {τ' : St}, w ∉ us → L2.wipe (τ'.set w none) us = (L2.wipe τ' us).set w none := fun {us τ'} => by
            induction us with
            | nil => intro _; rfl
            | cons u us ih2 =>
              intro hn
              unfold L2.wipe
              rw [ih2 fun z => hn (List.mem_cons_of_mem _ z)]
              exact List.set_comm _ _ (fun z => hn (by simp [z]))
          rw [comm hww, List.set_set, ih (fun j hj => by rename_i hsub; exact hsub j (List.mem_cons_of_mem _ hj))]
    have hw' : L2.wipe σ2 vs = L2.wipe σ vs := hw.trans (idem σ vs fun _ h => h)
    refine ⟨hw', ?_⟩
    · refine ht _ Γ2 (Dd :: O) σ2 H2 _ _ R2 q2 fun b Γ3 H3 R3 e3 q3 => ?_
      have eAll3 := L2.Same.trans ei (L2.Same.trans e' (L2.Same.trans e2 e3))
      cases b with
      | true =>
        refine he _ Γ3 (Dd :: O) σ2 H3 _ _ R3 q3 fun r Γ4 y H4 R4 e4 q4 => ?_
        obtain ⟨dy, hdy, hacc, q4⟩ := q4
        have ry : Rep C.K (hide (Dd :: O) H4) y dy := R4.pend.dat hdy
        have hD4 : H4 Dd = some (.lst vacc) := (R4.rel.uu _ List.mem_cons_self).1
        have e5 : hide (Dd :: O) (upd H4 Dd (.lst (vacc ++ [y]))) = hide (Dd :: O) H4 := hide_mut List.mem_cons_self
        have racc : Reps C.K (hide (Dd :: O) H4) vacc acc := ri.mono (L2.Same.trans e' (L2.Same.trans e2 (L2.Same.trans e3 e4.1)))
        refine ⟨vacc, hD4, by rw [racc.length]; exact Nat.lt_of_lt_of_le hacc (by decide), rfl, hlt, acc ++ [dy], vacc ++ [y], restD Γi Γ4 vs, ?_, ?_, ?_, q4⟩
        · have Rr := R'.rest (L2.Same.trans e2 (L2.Same.trans e3 e4.1)) R4.rel hw' hk
          have RrC : RelO C (restD Γi Γ4 vs) (Dd :: O) σ H4 := Rr.backU fun q hq => List.mem_cons_of_mem _ hq
          have hm4 := (Rr.uu _ List.mem_cons_self).2.2
          have Ru := RrC.updFree (o := .lst (vacc ++ [y])) List.mem_cons_self h0 hm4 hU
          refine Ru.congrU fun q hq => ?_
          rcases List.mem_cons.mp hq with z | z
          · subst z; exact ⟨upd_same, List.mem_cons_self, hm4⟩
          · exact Ru.uu q z
        · rw [e5]; exact L2.Same.trans eAll3 e4.1
        · rw [e5]; exact racc.append (.cons ry .nil)
      | false =>
        refine ⟨rfl, hlt, acc, vacc, restD Γi Γ3 vs, R'.rest (L2.Same.trans e2 e3) R3 hw' hk, eAll3, ri.mono (L2.Same.trans e' (L2.Same.trans e2 e3)), q3⟩
  · have e : i = n := by omega
    subst e
    rw [List.drop_of_length_le (by rw [itd.len]; exact Nat.le_refl _)] at qi
    obtain ⟨hs, qi⟩ := qi
    refine .inl ⟨itd.stop _ _ (sok.at ei RC hs), ?_⟩
    obtain ⟨RO, eO⟩ := RC.letgo (O' := O) h0 hDm hU fun a => ⟨fun ha => ⟨List.mem_cons_of_mem _ ha, fun z => hDO (z ▸ ha)⟩, fun ha => (List.mem_cons.mp ha.1).resolve_left ha.2⟩
    exact k (.fr (.lst acc)) Γi (.ref Dd) Hc ⟨RO, Dd, .lst vacc, rfl, hDc, hDO, h0, .lst ri, RC⟩ (.fr (L2.Same.trans e1 ei)) qi
end
end DL
/-! the data layer, part 7: statements -/
namespace DL
open PySem L2
def mYes : DTT := fun Γ Q => Q true Γ
theorem sim_yes {C : Ctx} : SimT C tYes mYes := fun Γ O σ H Qd Q R h k => k true Γ H R (L2.Same.refl _) h
/-! ### statements -/
structure DEnds where
  nx : Env → Prop
  rt : Res → Env → Prop
  bk : Env → Prop := fun _ => False
  ct : Env → Prop := fun _ => False
abbrev DTS := DEnds → Env → Prop
structure Link (C : Ctx) (D : Ends) (Dd : DEnds) : Prop where
  nx : ∀ Γ O σ H, RelO C Γ O σ H → Dd.nx Γ → D.nx σ H
  rt : ∀ r Γ O σ H v, ROk C Γ O σ H v r → Dd.rt r Γ → D.rt v H
  bk : ∀ Γ O σ H, RelO C Γ O σ H → Dd.bk Γ → D.bk σ H
  ct : ∀ Γ O σ H, RelO C Γ O σ H → Dd.ct Γ → D.ct σ H
def SimS (C : Ctx) (t : TS) (m : DTS) : Prop := ∀ (Γ : Env) (O : List Addr) (σ : St) (H : Hp) (D : Ends) (Dd : DEnds), RelO C Γ O σ H → m Dd Γ → Link C D Dd → t D σ H
structure DS (X : Cx) (C : Ctx) (st : Stmt) (t : TS) (m : DTS) : Prop where
  ps : PS X st t
  sim : SimS C t m
structure DSs (X : Cx) (C : Ctx) (st : List Stmt) (t : TS) (m : DTS) : Prop where
  pss : PSs X st t
  sim : SimS C t m
def mNext : DTS := fun D Γ => D.nx Γ
def mSeqS (m n : DTS) : DTS := fun D Γ => m { D with nx := n D } Γ
def mBrk : DTS := fun D Γ => D.bk Γ
def mCnt : DTS := fun D Γ => D.ct Γ
def mDrop (ma : DTE) : DTS := fun D Γ => ma Γ fun _ Γ1 => D.nx Γ1
def mRet (ma : DTE) : DTS := fun D Γ => ma Γ D.rt
def mRetN : DTS := fun D Γ => D.rt (.val .non) Γ
def mIfS (mt : DTT) (m n : DTS) : DTS := fun D Γ => mt Γ fun b Γ1 => if b = true then m D Γ1 else n D Γ1
/-- name = e, the object shared from now on | owned by the name -/
def mSet (i : Nat) (ma : DTE) : DTS := fun D Γ => ma Γ fun r Γ1 => ∃ d, dat r = some d ∧ freeB Γ1 i = true ∧ D.nx (Γ1.set i (.sh d))
def mSetO (i : Nat) (ma : DTE) : DTS := fun D Γ => ma Γ fun r Γ1 => ∃ d, r = .fr d ∧ freeB Γ1 i = true ∧ D.nx (Γ1.set i (.ow d))
/-- a ghost step: the object of slot i is shared from now on -/
def frzD (Γ : Env) (i : Nat) : Option Env := match Γ[i]? with
  | some (.ow d) => some (Γ.set i (.sh d))
  | some (.sh _) => some Γ
  | _ => none
def mFrz (i : Nat) (m : DTS) : DTS := fun D Γ => ∃ Γ1, frzD Γ i = some Γ1 ∧ m D Γ1
section
variable {X : Cx} {C : Ctx} {st : Stmt} {rest a b : List Stmt} {t u : TS} {m n : DTS} {e c : Expr} {te : TE} {me : DTE} {tc : TT} {mc : DTT} {pos : Pos}
theorem sim_next : SimS C tNext mNext := fun Γ O σ H D Dd R h L => L.nx Γ O σ H R h
theorem sim_seq (h1 : SimS C t m) (h2 : SimS C u n) : SimS C (tSeq t u) (mSeqS m n) := fun Γ O σ H D Dd R h L => h1 Γ O σ H _ _ R h ⟨fun Γ O σ H R h => h2 Γ O σ H _ _ R h L, L.rt, L.bk, L.ct⟩
theorem sim_drop (h1 : SimE C te me) : SimS C (tDrop te) (mDrop me) := fun Γ O σ H D Dd R h L => h1 Γ O σ H _ _ R h fun r Γ1 v H1 R1 e1 q => L.nx Γ1 O σ H1 R1.rel q
theorem sim_ret (h1 : SimE C te me) : SimS C (tRet te) (mRet me) := fun Γ O σ H D Dd R h L => h1 Γ O σ H _ _ R h fun r Γ1 v H1 R1 e1 q => L.rt r Γ1 O σ H1 v R1 q
theorem sim_ifS (hc : SimT C tc mc) (h1 : SimS C t m) (h2 : SimS C u n) : SimS C (tIfS tc t u) (mIfS mc m n) := fun Γ O σ H D Dd R h L => hc Γ O σ H _ _ R h fun b Γ1 H1 R1 e1 q => by
  cases b with
  | true => exact h1 Γ1 O σ H1 D Dd R1 q L
  | false => exact h2 Γ1 O σ H1 D Dd R1 q L
theorem sim_set {i : Nat} (h1 : SimE C te me) : SimS C (tAsg te (gName i)) (mSet i me) := fun Γ O σ H D Dd R h L => h1 Γ O σ H _ _ R h fun r Γ1 v H1 R1 e1 q => by
  obtain ⟨d, hd, hf, q⟩ := q
  exact L.nx _ O _ H1 (R1.rel.setSh (freeB_of hf) (R1.pend.dat hd)) q
theorem sim_setO {i : Nat} (h1 : SimE C te me) : SimS C (tAsg te (gName i)) (mSetO i me) := fun Γ O σ H D Dd R h L => h1 Γ O σ H _ _ R h fun r Γ1 v H1 R1 e1 q => by
  obtain ⟨d, rfl, hf, q⟩ := q
  obtain ⟨R1, p, o, rfl, hp, hpO, h0, ho, R2⟩ := R1
  exact L.nx _ (p :: O) _ H1 (R2.setOw (freeB_of hf) (fun j hj => hpO (R1.mutIn hj)) (fun q hq z => hpO (z ▸ (R1.uu q hq).2.1)) h0 hp ho) q
theorem sim_frz {i : Nat} (h1 : SimS C t m) : SimS C t (mFrz i m) := fun Γ O σ H D Dd R h L => by
  obtain ⟨Γ1, e, q⟩ := h
  unfold frzD at e
  split at e
  · rename_i d hd
    cases e
    obtain ⟨O', R', _⟩ := R.freeze hd
    exact h1 _ O' σ H D Dd R' q L
  · cases e
    exact h1 Γ O σ H D Dd R q L
  · cases e
theorem ds_nil : DSs X C [] tNext mNext := ⟨pss_nil, sim_next⟩
theorem ds_cons (h1 : DS X C st t m) (h2 : DSs X C rest u n) : DSs X C (st :: rest) (tSeq t u) (mSeqS m n) := ⟨pss_cons h1.ps h2.pss, sim_seq h1.sim h2.sim⟩
theorem ds_one (h1 : DS X C st t m) : DSs X C [st] t m := ⟨pss_one h1.ps, h1.sim⟩
theorem ds_expr (h : DE X C e te me) (hs : swapsWith e none pos.line X.env = pure false := by rfl) : DS X C (.Expr e pos) (tDrop te) (mDrop me) := ⟨ps_expr h.pe hs, sim_drop h.sim⟩
theorem ds_ret (h : DE X C e te me) : DS X C (.Return (some e) pos) (tRet te) (mRet me) := ⟨ps_ret h.pe, sim_ret h.sim⟩
theorem ds_if (hc : DT X C c tc mc) (ha : DSs X C a t m) (hb : DSs X C b u n) : DS X C (.If c a b pos) (tIfS tc t u) (mIfS mc m n) := ⟨ps_if hc.pt ha.pss hb.pss, sim_ifS hc.sim ha.sim hb.sim⟩
/-- name = e: h is ps_set (or ps_setLc) of the expression's rule -/
theorem ds_set {i : Nat} (he : DE X C e te me) (h : PE X e te → PS X st (tAsg te (gName i))) : DS X C st (tAsg te (gName i)) (mSet i me) := ⟨h he.pe, sim_set he.sim⟩
theorem ds_setO {i : Nat} (he : DE X C e te me) (h : PE X e te → PS X st (tAsg te (gName i))) : DS X C st (tAsg te (gName i)) (mSetO i me) := ⟨h he.pe, sim_setO he.sim⟩
/-- .. of a comprehension that is stored within its own frame -/
theorem ds_setS {i : Nat} (h : PS X st (tAsg te (gName i))) (hs : SimE C te me) : DS X C st (tAsg te (gName i)) (mSet i me) := ⟨h, sim_set hs⟩
theorem ds_setSO {i : Nat} (h : PS X st (tAsg te (gName i))) (hs : SimE C te me) : DS X C st (tAsg te (gName i)) (mSetO i me) := ⟨h, sim_setO hs⟩
theorem dss_frz (i : Nat) (h : DSs X C a t m) : DSs X C a t (mFrz i m) := ⟨h.pss, sim_frz h.sim⟩
/-- target = e -/
def mAsg (ma : DTE) (mg : DTG) : DTS := fun D Γ => ma Γ fun r Γ1 => ∃ d, dat r = some d ∧ mg d Γ1 D.nx
theorem sim_asg {g : TG} {mg : DTG} (h1 : SimE C te me) (h2 : SimG C g mg) : SimS C (tAsg te g) (mAsg me mg) := fun Γ O σ H D Dd R h L => h1 Γ O σ H _ _ R h fun r Γ1 v H1 R1 e1 q => by
  obtain ⟨d, hd, q⟩ := q
  exact h2 Γ1 O σ H1 v d _ _ R1.rel (R1.pend.dat hd) q fun Γ2 σ2 H2 R2 e2 q2 => L.nx Γ2 O σ2 H2 R2 q2
theorem ds_asg {tg : Expr} {g : TG} {mg : DTG} (he : DE X C e te me) (hg : DG X C tg g mg) (hs : swapsWithSole [tg] e pos.line X.env = pure false := by rfl) (hw : swappedStores [tg] e X.env = pure none := by rfl)
    (h1 : (assignEach [tg] X.env).map (·.2) = [assign tg X.env] := by rfl) : DS X C (.Assign [tg] e pos) (tAsg te g) (mAsg me mg) := ⟨ps_asg he.pe hg.pg hs hw h1, sim_asg he.sim hg.sim⟩
/-- name op= e: ints, texts, and lists that the name owns -/
def mAug (i : Nat) (me : DTE) (f : D → D → (Res → Prop) → Prop) : DTS := fun D Γ => ∃ x, Γ[i]? = some (.sh x) ∧ me Γ fun r Γ1 => ∃ y, rd Γ1 r = some y ∧ f x y fun z => ∃ d, z = .val d ∧ freeB Γ1 i = true ∧ D.nx (Γ1.set i (.sh d))
def addI : D → D → (Res → Prop) → Prop
  | .int i, .int j, Q => Q (.val (.int (i + j)))
  | _, _, _ => False
def subI : D → D → (Res → Prop) → Prop
  | .int i, .int j, Q => Q (.val (.int (i - j)))
  | _, _, _ => False
theorem sim_aug {i : Nat} {g : Int → Int → Int} {f : D → D → (Res → Prop) → Prop} (hf : ∀ a b Q, f a b Q → ∃ i j, a = .int i ∧ b = .int j ∧ Q (.val (.int (g i j)))) (h1 : SimE C te me) : SimS C (tAug i te (ipI g)) (mAug i me f) := fun Γ O σ H D Dd R h L => by
  obtain ⟨x, hx, q⟩ := h
  obtain ⟨v, hv, rv⟩ := R.sl i _ hx
  refine ⟨v, hv, h1 Γ O σ H _ _ R q fun r Γ1 w H1 R1 e1 q1 => ?_⟩
  obtain ⟨y, hy, q1⟩ := q1
  obtain ⟨a, b, rfl, rfl, d, hd, hfr, q1⟩ := hf x y _ q1
  cases hd
  obtain rfl := (show B2 C.K O H v (.int a) from .inl rv).int
  obtain rfl := (R1.pend.b2 R1.rel hy).int
  exact ⟨a, b, rfl, rfl, L.nx _ O _ H1 (R1.rel.setSh (freeB_of hfr) (.int _)) q1⟩
theorem sim_augAdd {i : Nat} (h1 : SimE C te me) : SimS C (tAug i te (ipI fun i j => i + j)) (mAug i me addI) := sim_aug (fun a b Q h => by
  unfold addI at h
  split at h
  · exact ⟨_, _, rfl, rfl, h⟩
  · exact h.elim) h1
theorem ds_augAdd {i : Nat} (he : DE X C e te me) (h : PE X e te → PS X st (tAug i te (ipI fun i j => i + j))) : DS X C st (tAug i te (ipI fun i j => i + j)) (mAug i me addI) := ⟨h he.pe, sim_augAdd he.sim⟩
end
/-! ### for -/
/-- what a source asks at each turn of a loop: a place is a parameter that is only looked at -/
def srcL (Γ : Env) : Src → Prop
  | .pl i d => Γ[i]? = some (.bo d)
  | _ => True
def loopM (src : Src) (mg : DTG) (mb : DTS) (K : DEnds) : List D → Env → Prop
  | [], Γ => srcL Γ src ∧ K.nx Γ
  | x :: xs, Γ => srcL Γ src ∧ mg x Γ fun Γ2 => mb { K with nx := loopM src mg mb K xs, ct := loopM src mg mb K xs, bk := K.nx } Γ2
def mFor (mi : DTI) (mg : DTG) (mb : DTS) : DTS := fun K Γ => mi Γ fun src items Γ1 => loopM src mg mb K items Γ1
section
variable {C : Ctx}
theorem ROk.backT {T : List (V × D)} {Γ : Env} {O : List Addr} {σ : St} {H : Hp} {v : V} {r : Res} (h : ROk { C with T := T } Γ O σ H v r) (hT : ∀ q, q ∈ C.T → q ∈ T) : ROk C Γ O σ H v r := by
  cases r with
  | val d => exact ⟨h.1.backT hT, h.2⟩
  | fr d =>
    obtain ⟨h1, p, o, e, h2, h3, h4, h5, h6⟩ := h
    exact ⟨h1.backT hT, p, o, e, h2, h3, h4, h5, h6.backT hT⟩
  | pl i => exact ⟨h.1.backT hT, h.2⟩
theorem sim_for {wi : TI} {g : TG} {tb : TS} {mi : DTI} {mg : DTG} {mb : DTS} (hi : SimI C wi mi) (hg : ∀ T, SimG { C with T := T } g mg) (hb : ∀ T, SimS { C with T := T } tb mb) : SimS C (tFor wi g tb) (mFor mi mg mb) := fun Γ O σ H D Dd R h L => by
  refine hi Γ O σ H _ _ R h fun src items Γ1 J H1 n gg R1 e1 itd sok q => ?_
  -- what is held meanwhile
  have hold : ∃ T, (∀ q, q ∈ C.T → q ∈ T) ∧ RelO { C with T := T } Γ1 O σ H1 ∧ ∀ Γ' O' σ' H', RelO { C with T := T } Γ' O' σ' H' → srcL Γ' src → gg O' H' := by
    cases src with
    | no => exact ⟨C.T, fun _ h => h, R1, fun Γ' O' σ' H' _ _ => sok O' H'⟩
    | val d =>
      obtain ⟨v, h1, h2⟩ := sok
      refine ⟨(v, d) :: C.T, fun _ h => List.mem_cons_of_mem _ h, R1.congrT fun q hq => ?_, fun Γ' O' σ' H' R' _ => h2 O' H' (R'.tt _ List.mem_cons_self)⟩
      rcases List.mem_cons.mp hq with z | z
      · subst z; exact h1
      · exact R1.tt q z
    | v2 a b =>
      obtain ⟨v, w, h1, h1', h2⟩ := sok
      refine ⟨(v, a) :: (w, b) :: C.T, fun _ h => List.mem_cons_of_mem _ (List.mem_cons_of_mem _ h), R1.congrT fun q hq => ?_, fun Γ' O' σ' H' R' _ => h2 O' H' (R'.tt _ List.mem_cons_self) (R'.tt _ (List.mem_cons_of_mem _ List.mem_cons_self))⟩
      rcases List.mem_cons.mp hq with z | z
      · subst z; exact h1
      · rcases List.mem_cons.mp z with z | z
        · subst z; exact h1'
        · exact R1.tt q z
    | pl i d =>
      obtain ⟨v, h1, h2, h3⟩ := sok
      refine ⟨C.T, fun _ h => h, R1, fun Γ' O' σ' H' R' hl => ?_⟩
      have hl : Γ'[i]? = some (.bo d) := hl
      obtain ⟨v', g1, g2, g3⟩ := R'.sl i _ hl
      have hv : v' = v := by
        have b1 := (R1.bb _ g2).1
        rw [h1] at b1
        exact (Option.some.inj (Option.some.inj b1)).symm
      subst hv
      refine h3 O' H' (Pend.b2 (r := .pl i) R' g1 ?_)
      show cont Γ'[i]? = some d
      rw [hl]; rfl
  obtain ⟨T, hT, RT, hgg⟩ := hold
  refine ⟨fun i m σ H => m = n - i ∧ i ≤ n ∧ ∃ Γ O, RelO { C with T := T } Γ O σ H ∧ loopM src mg mb Dd (items.drop i) Γ, ⟨n, by simp, Nat.zero_le _, Γ1, O, RT, q⟩, ?_⟩
  rintro i m σ2 H2 ⟨rfl, hin, Γ2, O2, R2, q2⟩
  by_cases hlt : i < n
  · have hil : i < items.length := by rw [itd.len]; exact hlt
    rw [List.drop_eq_getElem_cons hil] at q2
    obtain ⟨hs, q2⟩ := q2
    have gi := hgg _ _ _ _ R2 hs
    refine .inr ⟨itd.go i _ _ gi hlt, fun σ' H' => ∃ Γ' O', RelO { C with T := T } Γ' O' σ' H' ∧ loopM src mg mb Dd (items.drop (i + 1)) Γ', fun σ' H' ⟨Γ', O', R', q'⟩ => ⟨n - (i + 1), by omega, rfl, hlt, Γ', O', R', q'⟩, fun x H' y => ?_⟩
    obtain ⟨d, hd, hx⟩ := itd.yld i _ _ x H' gi hlt y
    have hdi : d = items[i] := by
      rw [List.getElem?_eq_getElem hil] at hd
      exact (Option.some.inj hd).symm
    have st : RelO { C with T := T } Γ2 O2 σ2 H' ∧ Rep C.K (hide O2 H') x d := by
      rcases hx with ⟨rfl, hx⟩ | ⟨p, pvs, pds, rfl, hp, rfl, hr, rfl⟩
      · exact ⟨R2, hx⟩
      · exact ⟨R2.alloc hp, .tup (by rw [hide_out (R2.notin hp)]; exact upd_same) (hr.mono (hide_new hp))⟩
    obtain ⟨R', r'⟩ := st
    rw [← hdi] at q2
    refine hg T Γ2 O2 σ2 H' x d _ _ R' r' q2 fun Γ3 σ3 H3 R3 e3 q3 => ?_
    refine hb T Γ3 O2 σ3 H3 _ _ R3 q3 ⟨fun Γ' O' σ' H' R q => ⟨Γ', O', R, q⟩, fun r Γ' O' σ' H' v hr q => L.rt r Γ' O' σ' H' v (hr.backT hT) q, fun Γ' O' σ' H' R q => L.nx Γ' O' σ' H' (R.backT hT) q, fun Γ' O' σ' H' R q => ⟨Γ', O', R, q⟩⟩
  · have e : i = n := by omega
    subst e
    rw [List.drop_of_length_le (by rw [itd.len]; exact Nat.le_refl _)] at q2
    exact .inl ⟨itd.stop _ _ (hgg _ _ _ _ R2 q2.1), L.nx Γ2 O2 σ2 H2 (R2.backT hT) q2.2⟩
end
section
variable {X : Cx} {C : Ctx} {tg iter c : Expr} {body : List Stmt} {wi : TI} {g : TG} {tb : TS} {mi : DTI} {mg : DTG} {mb : DTS} {pos : Pos} {tc : TT} {mc : DTT}
theorem ds_for (hp : PassesOwn (model X.prog X.w) X.A X.env X.xe) (hc : X.calm = true) (hi : DI X C tg iter wi mi) (hg : ∀ T, DG X { C with T := T } tg g mg) (hb : ∀ T, DSs X { C with T := T } body tb mb) (hs : ∀ x, foldedSetIterable iter X.env x = pure x := by intro _; rfl) : DS X C (.For tg iter body [] pos) (tFor wi g tb) (mFor mi mg mb) :=
  ⟨ps_for hp hc hi.pi (hg C.T).pg (hb C.T).pss hs, sim_for hi.sim (fun T => (hg T).sim) fun T => (hb T).sim⟩
end
end DL
/-! the data layer, part 8: what a def promises over data; calls -/
namespace DL
open PySem L2
/-- how a parameter is taken: shared; only looked at; changed in place -/
inductive Md where
  | S
  | B
  | M
  deriving DecidableEq
def mA : Md → V → List Addr
  | .M, .ref a => [a]
  | _, _ => []
def mAddrs : List Md → List V → List Addr
  | [], _ => []
  | _ :: _, [] => []
  | m :: ms, v :: vs => mA m v ++ mAddrs ms vs
inductive ArgsOk (K : Fg) (O : List Addr) (H : Hp) (Ms : List Addr) : List Md → List V → List D → Prop
  | nil : ArgsOk K O H Ms [] [] []
  | S {v : V} {d : D} {ms : List Md} {vs : List V} {ds : List D} : Rep K (hide O H) v d → ArgsOk K O H Ms ms vs ds → ArgsOk K O H Ms (.S :: ms) (v :: vs) (d :: ds)
  | B {v : V} {d : D} {ms : List Md} {vs : List V} {ds : List D} : (Rep K (hide O H) v d ∨ ∃ l o, v = .ref l ∧ H l = some o ∧ l ∉ Ms ∧ OwnOk K (hide O H) o d) → ArgsOk K O H Ms ms vs ds → ArgsOk K O H Ms (.B :: ms) (v :: vs) (d :: ds)
  | M {l : Addr} {o : HO} {d : D} {ms : List Md} {vs : List V} {ds : List D} : l ∈ O → H l = some o → OwnOk K (hide O H) o d → ArgsOk K O H Ms ms vs ds → ArgsOk K O H Ms (.M :: ms) (.ref l :: vs) (d :: ds)
inductive MsOk (K : Fg) (O : List Addr) (H : Hp) : List Md → List V → List D → Prop
  | nil : MsOk K O H [] [] []
  | S {v : V} {ms : List Md} {vs : List V} {ds : List D} : MsOk K O H ms vs ds → MsOk K O H (.S :: ms) (v :: vs) ds
  | B {v : V} {ms : List Md} {vs : List V} {ds : List D} : MsOk K O H ms vs ds → MsOk K O H (.B :: ms) (v :: vs) ds
  | M {l : Addr} {o : HO} {d : D} {ms : List Md} {vs : List V} {ds : List D} : H l = some o → OwnOk K (hide O H) o d → MsOk K O H ms vs ds → MsOk K O H (.M :: ms) (.ref l :: vs) (d :: ds)
structure PostOk (K : Fg) (O : List Addr) (H : Hp) (ms : List Md) (vs : List V) (H' : Hp) (O' : List Addr) : Prop where
  sub : ∀ a ∈ O, a ∈ O'
  new : ∀ a ∈ O', a ∈ O ∨ H a = none
  al : ∀ a ∈ O', H' a ≠ none
  fr : ∀ a o, H a = some o → a ∉ mAddrs ms vs → H' a = some o
/-- what a def promises: the arguments, what is wanted of the answer (is it a new object; the datum; what the changed parameters hold), of an error (its class, its fields) -/
abbrev EdT := Str → List (Str × D) → List D → Prop
/-- the dict of an exception that a callee lets out -/
def XdOk (K : Fg) (H H' : Hp) (d : Option Addr) (fds : List (Str × D)) : Prop := (d = none ∧ fds = []) ∨ ∃ dx fvs, d = some dx ∧ H dx = none ∧ H' dx = some (.xd fvs) ∧ fvs.map (·.1) = fds.map (·.1) ∧ Reps K (fun _ => none) (fvs.map (·.2)) (fds.map (·.2))
abbrev DSp := List D → (Bool → D → List D → Prop) → EdT → Prop
def ResOk (K : Fg) (H : Hp) (H' : Hp) (O' : List Addr) (v : V) : Bool → D → Prop
  | true, d => ∃ p o, v = .ref p ∧ p ∈ O' ∧ H p = none ∧ H' p = some o ∧ OwnOk K (hide O' H') o d
  | false, d => Rep K (hide O' H') v d
def spD (K : Fg) (ms : List Md) (sd : DSp) : Sp := fun vs H Q E => ∃ (O : List Addr) (ds : List D) (Qd : Bool → D → List D → Prop) (Ed : EdT), ArgsOk K O H (mAddrs ms vs) ms vs ds ∧ (∀ a ∈ O, H a ≠ none) ∧ (mAddrs ms vs).Nodup ∧ sd ds Qd Ed ∧
  (∀ v H' O' b d ds', PostOk K O H ms vs H' O' → MsOk K O' H' ms vs ds' → ResOk K H H' O' v b d → Qd b d ds' → Q v H') ∧
  (∀ n c d H' O' fds ds', PostOk K O H ms vs H' O' → MsOk K O' H' ms vs ds' → XNm K n c → XdOk K H H' d fds → Ed n fds ds' → E (.ref c) d H')
theorem ArgsOk.len {K : Fg} {O : List Addr} {H : Hp} {Ms : List Addr} : ∀ {ms : List Md} {vs : List V} {ds : List D}, ArgsOk K O H Ms ms vs ds → vs.length = ms.length ∧ ds.length = ms.length
  | _, _, _, .nil => ⟨rfl, rfl⟩
  | _, _, _, .S _ t => ⟨by rw [List.length_cons, List.length_cons, t.len.1], by rw [List.length_cons, List.length_cons, t.len.2]⟩
  | _, _, _, .B _ t => ⟨by rw [List.length_cons, List.length_cons, t.len.1], by rw [List.length_cons, List.length_cons, t.len.2]⟩
  | _, _, _, .M _ _ _ t => ⟨by rw [List.length_cons, List.length_cons, t.len.1], by rw [List.length_cons, List.length_cons, t.len.2]⟩
/-! ### the callee's side -/
def sl0 : Md → D → Sl
  | .S, d => .sh d
  | .B, d => .bo d
  | .M, d => .io d
def env0 : List Md → List D → Env
  | [], _ => []
  | _ :: _, [] => []
  | m :: ms, d :: ds => sl0 m d :: env0 ms ds
def io1 : Md → Option Sl → List D
  | .M, some (.io d) => [d]
  | _, _ => []
def iosD : List Md → Env → List D
  | [], _ => []
  | m :: ms, Γ => io1 m Γ.head? ++ iosD ms Γ.tail
def mListA : Nat → List Md → List V → List (Nat × Addr)
  | _, [], _ => []
  | _, _ :: _, [] => []
  | i, m :: ms, v :: vs => (mA m v).map (fun a => (i, a)) ++ mListA (i + 1) ms vs
def bL (i : Nat) : Md → V → List (Nat × V)
  | .B, v => [(i, v)]
  | _, _ => []
def bListA : Nat → List Md → List V → List (Nat × V)
  | _, [], _ => []
  | _, _ :: _, [] => []
  | i, m :: ms, v :: vs => bL i m v ++ bListA (i + 1) ms vs
theorem mListA_addr : ∀ (ms : List Md) (vs : List V) (i j : Nat) (a : Addr), (j, a) ∈ mListA i ms vs → a ∈ mAddrs ms vs
  | [], _, _, _, _, h => by cases h
  | _ :: _, [], _, _, _, h => by cases h
  | m :: ms, v :: vs, i, j, a, h => by
    unfold mListA at h
    unfold mAddrs
    rcases List.mem_append.mp h with h | h
    · obtain ⟨b, hb, e⟩ := List.mem_map.mp h
      cases e
      exact List.mem_append_left _ hb
    · exact List.mem_append_right _ (mListA_addr ms vs (i + 1) j a h)
/-- slot by slot, at an entry -/
theorem args_at {K : Fg} {O : List Addr} {H : Hp} {Ms : List Addr} {ms : List Md} {vs : List V} {ds : List D} (A : ArgsOk K O H Ms ms vs ds) : ∀ (i k : Nat) (s : Sl), (env0 ms ds)[i]? = some s → ∃ v, vs[i]? = some v ∧
    ((∃ d, s = .sh d ∧ Rep K (hide O H) v d) ∨ (∃ d, s = .bo d ∧ (k + i, v) ∈ bListA k ms vs ∧ (Rep K (hide O H) v d ∨ ∃ l o, v = .ref l ∧ H l = some o ∧ l ∉ Ms ∧ OwnOk K (hide O H) o d)) ∨ ∃ d l o, s = .io d ∧ v = .ref l ∧ (k + i, l) ∈ mListA k ms vs ∧ l ∈ O ∧ H l = some o ∧ OwnOk K (hide O H) o d) := by
  induction A with
  | nil => intro i k s h; cases h
  | S hr t ih =>
    intro i k s h
    cases i with
    | zero => cases h; exact ⟨_, rfl, .inl ⟨_, rfl, hr⟩⟩
    | succ i =>
      obtain ⟨w, e, q⟩ := ih i (k + 1) s h
      refine ⟨w, e, ?_⟩
      have ek : k + (i + 1) = k + 1 + i := by omega
      rw [ek]
      rcases q with q | ⟨d, e1, q1, q2⟩ | ⟨d, l, o, e1, e2, q1, q2⟩
      · exact .inl q
      · exact .inr (.inl ⟨d, e1, List.mem_append_right _ q1, q2⟩)
      · exact .inr (.inr ⟨d, l, o, e1, e2, List.mem_append_right _ q1, q2⟩)
  | B hr t ih =>
    intro i k s h
    cases i with
    | zero => cases h; exact ⟨_, rfl, .inr (.inl ⟨_, rfl, List.mem_append_left _ (List.mem_singleton.mpr rfl), hr⟩)⟩
    | succ i =>
      obtain ⟨w, e, q⟩ := ih i (k + 1) s h
      refine ⟨w, e, ?_⟩
      have ek : k + (i + 1) = k + 1 + i := by omega
      rw [ek]
      rcases q with q | ⟨d, e1, q1, q2⟩ | ⟨d, l, o, e1, e2, q1, q2⟩
      · exact .inl q
      · exact .inr (.inl ⟨d, e1, List.mem_append_right _ q1, q2⟩)
      · exact .inr (.inr ⟨d, l, o, e1, e2, List.mem_append_right _ q1, q2⟩)
  | M h1 h2 h3 t ih =>
    intro i k s h
    cases i with
    | zero => cases h; exact ⟨_, rfl, .inr (.inr ⟨_, _, _, rfl, rfl, List.mem_append_left _ (List.mem_singleton.mpr rfl), h1, h2, h3⟩)⟩
    | succ i =>
      obtain ⟨w, e, q⟩ := ih i (k + 1) s h
      refine ⟨w, e, ?_⟩
      have ek : k + (i + 1) = k + 1 + i := by omega
      rw [ek]
      rcases q with q | ⟨d, e1, q1, q2⟩ | ⟨d, l, o, e1, e2, q1, q2⟩
      · exact .inl q
      · exact .inr (.inl ⟨d, e1, List.mem_append_right _ q1, q2⟩)
      · exact .inr (.inr ⟨d, l, o, e1, e2, List.mem_append_right _ q1, q2⟩)
theorem mA_S {v : V} : mA .S v = [] := by cases v <;> rfl
theorem mA_B {v : V} : mA .B v = [] := by cases v <;> rfl
theorem mList_at {K : Fg} {O : List Addr} {H : Hp} {Ms : List Addr} {ms : List Md} {vs : List V} {ds : List D} (A : ArgsOk K O H Ms ms vs ds) : ∀ (k : Nat) (q : Nat × Addr), q ∈ mListA k ms vs → ∃ i, q.1 = k + i ∧ vs[i]? = some (.ref q.2) ∧ ∃ d, (env0 ms ds)[i]? = some (.io d) := by
  induction A with
  | nil => intro k q h; cases h
  | S hr t ih =>
    intro k q h
    unfold mListA at h
    rw [mA_S] at h
    obtain ⟨i, e, e1, d, e2⟩ := ih (k + 1) q h
    exact ⟨i + 1, by omega, e1, d, e2⟩
  | B hr t ih =>
    intro k q h
    unfold mListA at h
    rw [mA_B] at h
    obtain ⟨i, e, e1, d, e2⟩ := ih (k + 1) q h
    exact ⟨i + 1, by omega, e1, d, e2⟩
  | M h1 h2 h3 t ih =>
    intro k q h
    unfold mListA at h
    rcases List.mem_append.mp h with h | h
    · have e : q = (k, _) := List.mem_singleton.mp h
      subst e
      exact ⟨0, rfl, rfl, _, rfl⟩
    · obtain ⟨i, e, e1, d, e2⟩ := ih (k + 1) q h
      exact ⟨i + 1, by omega, e1, d, e2⟩
theorem bList_at {K : Fg} {O : List Addr} {H : Hp} {Ms : List Addr} {ms : List Md} {vs : List V} {ds : List D} (A : ArgsOk K O H Ms ms vs ds) : ∀ (k : Nat) (q : Nat × V), q ∈ bListA k ms vs → ∃ i, q.1 = k + i ∧ vs[i]? = some q.2 ∧ ∃ d, (env0 ms ds)[i]? = some (.bo d) := by
  induction A with
  | nil => intro k q h; cases h
  | S hr t ih =>
    intro k q h
    obtain ⟨i, e, e1, d, e2⟩ := ih (k + 1) q h
    exact ⟨i + 1, by omega, e1, d, e2⟩
  | B hr t ih =>
    intro k q h
    unfold bListA at h
    rcases List.mem_append.mp h with h | h
    · have e : q = (k, _) := List.mem_singleton.mp h
      subst e
      exact ⟨0, rfl, rfl, _, rfl⟩
    · obtain ⟨i, e, e1, d, e2⟩ := ih (k + 1) q h
      exact ⟨i + 1, by omega, e1, d, e2⟩
  | M h1 h2 h3 t ih =>
    intro k q h
    obtain ⟨i, e, e1, d, e2⟩ := ih (k + 1) q h
    exact ⟨i + 1, by omega, e1, d, e2⟩
theorem mNodup : ∀ (ms : List Md) (vs : List V) (k i j : Nat) (a : Addr), (mAddrs ms vs).Nodup → (i, a) ∈ mListA k ms vs → (j, a) ∈ mListA k ms vs → i = j
  | [], _, _, _, _, _, _, h, _ => by cases h
  | _ :: _, [], _, _, _, _, _, h, _ => by cases h
  | m :: ms, v :: vs, k, i, j, a, n, h1, h2 => by
    unfold mAddrs at n
    obtain ⟨_, n2, n3⟩ := List.nodup_append.mp n
    unfold mListA at h1 h2
    have hd : ∀ {i : Nat}, (i, a) ∈ (mA m v).map (fun a => (k, a)) → i = k ∧ a ∈ mA m v := fun {i} h => by
      obtain ⟨b, hb, e⟩ := List.mem_map.mp h
      cases e
      exact ⟨rfl, hb⟩
    rcases List.mem_append.mp h1 with h1 | h1
    · rcases List.mem_append.mp h2 with h2 | h2
      · rw [(hd h1).1, (hd h2).1]
      · exact absurd rfl (n3 a (hd h1).2 a (mListA_addr _ _ _ _ _ h2))
    · rcases List.mem_append.mp h2 with h2 | h2
      · exact absurd rfl (n3 a (hd h2).2 a (mListA_addr _ _ _ _ _ h1))
      · exact mNodup ms vs (k + 1) i j a n2 h1 h2
def ctx0 (K : Fg) (O : List Addr) (H : Hp) (ms : List Md) (vs : List V) : Ctx := ⟨K, H, O, mListA 0 ms vs, bListA 0 ms vs, [], []⟩
def startD (N : List Str) (ms : List Md) (ds : List D) : Env := env0 ms ds ++ List.replicate (N.length - ds.length) .no
theorem env0_len {K : Fg} {O : List Addr} {H : Hp} {Ms : List Addr} {ms : List Md} {vs : List V} {ds : List D} (A : ArgsOk K O H Ms ms vs ds) : (env0 ms ds).length = ds.length := by
  induction A with
  | nil => rfl
  | S _ _ ih => unfold env0; rw [List.length_cons, List.length_cons, ih]
  | B _ _ ih => unfold env0; rw [List.length_cons, List.length_cons, ih]
  | M _ _ _ _ ih => unfold env0; rw [List.length_cons, List.length_cons, ih]
theorem relO_start {K : Fg} {O : List Addr} {H : Hp} {ms : List Md} {vs : List V} {ds : List D} {N : List Str} (A : ArgsOk K O H (mAddrs ms vs) ms vs ds) (al : ∀ a ∈ O, H a ≠ none) (nd : (mAddrs ms vs).Nodup) : RelO (ctx0 K O H ms vs) (startD N ms ds) O (L2.start N vs) H := by
  have el := env0_len A
  have vl := A.len
  have atG : ∀ {i : Nat} {s : Sl}, (startD N ms ds)[i]? = some s → s = .no ∨ (env0 ms ds)[i]? = some s := fun {i s} h => by
    unfold startD at h
    by_cases hi : i < (env0 ms ds).length
    · rw [List.getElem?_append_left hi] at h; exact .inr h
    · rw [List.getElem?_append_right (by omega), List.getElem?_replicate] at h
      split at h
      · cases h; exact .inl rfl
      · cases h
  have atS : ∀ {i : Nat} {v : V}, vs[i]? = some v → (L2.start N vs)[i]? = some (some v) := fun {i v} h => by
    have hi := (List.getElem?_eq_some_iff.mp h).1
    unfold L2.start
    rw [List.getElem?_append_left (by simpa using hi), List.getElem?_map, h]; rfl
  have inG : ∀ {i : Nat} {s : Sl}, (env0 ms ds)[i]? = some s → (startD N ms ds)[i]? = some s := fun {i s} h => by
    have hi := (List.getElem?_eq_some_iff.mp h).1
    unfold startD
    rw [List.getElem?_append_left hi]; exact h
  have mutA : ∀ {i : Nat} {a : Addr}, MutAt (startD N ms ds) (L2.start N vs) i a → (i, a) ∈ mListA 0 ms vs := fun {i a} ⟨⟨d, h⟩, h2⟩ => by
    have h' : (startD N ms ds)[i]? = some (.io d) := by
      rcases h with h | h
      · rcases atG h with z | z
        · cases z
        · obtain ⟨v, _, q⟩ := args_at A _ 0 _ z
          rcases q with ⟨_, q, _⟩ | ⟨_, q, _⟩ | ⟨_, _, _, q, _⟩ <;> cases q
      · exact h
    rcases atG h' with z | z
    · cases z
    · obtain ⟨v, hv, q⟩ := args_at A _ 0 _ z
      rcases q with ⟨_, q, _⟩ | ⟨_, q, _⟩ | ⟨_, l, _, _, e, q, _⟩
      · cases q
      · cases q
      · subst e
        rw [atS hv] at h2
        cases h2
        simpa using q
  refine ⟨fun i s h => ?_, fun i j a n h1 h2 => n (mNodup _ _ 0 _ _ _ nd (mutA h1) (mutA h2)), fun a o h _ => h, fun q hq => ?_, fun q hq => ?_, fun a h => h, al, fun a h => .inl h, al, fun q hq => absurd hq (by simp [ctx0]), fun q hq => absurd hq (by simp [ctx0]), ?_⟩
  · rcases atG h with z | z
    · subst z; trivial
    · obtain ⟨v, hv, q⟩ := args_at A _ 0 _ z
      rcases q with ⟨d, e, q⟩ | ⟨d, e, q1, q⟩ | ⟨d, l, o, e, e2, q1, q2, q3, q4⟩
      · subst e; exact ⟨v, atS hv, q⟩
      · subst e
        refine ⟨v, atS hv, by rw [Nat.zero_add] at q1; exact q1, ?_⟩
        rcases q with q | ⟨l, o, e3, q3, q4, q5⟩
        · exact .inl q
        · exact .inr ⟨l, o, e3, q3, fun p hp z => q4 (z ▸ mListA_addr _ _ 0 p.1 _ hp), q5⟩
      · subst e e2; exact ⟨l, o, atS hv, by rw [Nat.zero_add] at q1; exact q1, q2, q3, q4⟩
  · obtain ⟨i, e, e1, d, e2⟩ := mList_at A 0 q (show q ∈ mListA 0 ms vs from hq)
    rw [show q.1 = i by omega]
    exact ⟨atS e1, d, inG e2⟩
  · obtain ⟨i, e, e1, d, e2⟩ := bList_at A 0 q (show q ∈ bListA 0 ms vs from hq)
    rw [show q.1 = i by omega]
    exact ⟨atS e1, d, inG e2⟩
  · unfold startD L2.start
    rw [List.length_append, List.length_append, List.length_replicate, List.length_replicate, List.length_map, el, vl.1, vl.2]
/-- what the changed parameters hold at the end -/
theorem ms_end {K : Fg} {O O' : List Addr} {H H' : Hp} {Ms : List Addr} {ms : List Md} {vs : List V} {ds : List D} (A : ArgsOk K O H Ms ms vs ds) : ∀ (Γ : Env) (k : Nat),
    (∀ i l, (k + i, l) ∈ mListA k ms vs → ∃ d o, Γ[i]? = some (.io d) ∧ H' l = some o ∧ OwnOk K (hide O' H') o d) → MsOk K O' H' ms vs (iosD ms Γ) := by
  induction A with
  | nil => intro Γ k _; exact .nil
  | S hr t ih =>
    intro Γ k h
    unfold iosD
    refine .S (ih Γ.tail (k + 1) fun i l hm => ?_)
    obtain ⟨d, o, e, q⟩ := h (i + 1) l (by rw [show k + (i + 1) = k + 1 + i by omega]; exact List.mem_append_right _ hm)
    exact ⟨d, o, by rw [List.getElem?_tail]; exact e, q⟩
  | B hr t ih =>
    intro Γ k h
    unfold iosD
    refine .B (ih Γ.tail (k + 1) fun i l hm => ?_)
    obtain ⟨d, o, e, q⟩ := h (i + 1) l (by rw [show k + (i + 1) = k + 1 + i by omega]; exact List.mem_append_right _ hm)
    exact ⟨d, o, by rw [List.getElem?_tail]; exact e, q⟩
  | M h1 h2 h3 t ih =>
    intro Γ k h
    obtain ⟨d, o, e, q1, q2⟩ := h 0 _ (List.mem_append_left _ (List.mem_singleton.mpr rfl))
    unfold iosD
    rw [List.head?_eq_getElem?, e]
    refine .M q1 q2 (ih Γ.tail (k + 1) fun i l hm => ?_)
    obtain ⟨d, o, e, q⟩ := h (i + 1) l (by rw [show k + (i + 1) = k + 1 + i by omega]; exact List.mem_append_right _ hm)
    exact ⟨d, o, by rw [List.getElem?_tail]; exact e, q⟩
/-- the ends of a def's body over data -/
def endsD (ms : List Md) (Qd : Bool → D → List D → Prop) : DEnds where
  nx := fun Γ => Qd false .non (iosD ms Γ)
  rt := fun r Γ => match r with
    | .val d => Qd false d (iosD ms Γ)
    | .fr d => Qd true d (iosD ms Γ)
    | .pl i => ∃ d, Γ[i]? = some (.ow d) ∧ Qd true d (iosD ms Γ)
theorem post_of {K : Fg} {O O' : List Addr} {H H' : Hp} {ms : List Md} {vs : List V} {ds : List D} {Γ : Env} {σ : St} (A : ArgsOk K O H (mAddrs ms vs) ms vs ds) (R : RelO (ctx0 K O H ms vs) Γ O' σ H') : PostOk K O H ms vs H' O' ∧ MsOk K O' H' ms vs (iosD ms Γ) := by
  refine ⟨⟨R.oo, R.ol, R.al, fun a o h n => R.fr a o h fun p hp z => n (by rw [← z]; exact mListA_addr _ _ 0 p.1 _ hp)⟩, ms_end A Γ 0 fun i l hm => ?_⟩
  rw [Nat.zero_add] at hm
  obtain ⟨h1, d, h2⟩ := R.mm (i, l) hm
  obtain ⟨l', o, h3, _, _, h4, h5⟩ := R.sl i _ h2
  rw [show σ[i]? = some (some (.ref l)) from h1] at h3
  cases h3
  exact ⟨d, o, h2, h4, h5⟩
end DL
/-! the data layer, part 9: defs and their calls -/
namespace DL
open PySem PySem.Spec PyProof.Rows L2
/-- a def keeps its promise wherever nothing is being shown (no repr is under way) -/
structure FnG (P : Program) (w : World) (K : Fg) (mg : Str → Option Value) (base : Heap) (k : Nat) (f : Addr) (fd : FuncData) (ps : List Str) (sp : Sp) : Prop where
  len : ∀ vs H Q E, sp vs H Q E → vs.length = ps.length
  go : ∀ (A : Around), A.guards = some [] → Room k A → ∀ (outer : List PySem.Env) (s : Shared) (H : Hp) (args : Args) (us : List Value) (vs : List V) (Q : VK) (E : XK),
    Env0 P w K mg base A outer s H → BindsTo s fd args (ps.zip us) → Vals vs us → sp vs H Q E → codeAny (model P w) A (.call (.ref f) args) (CR (L2.CX P w) outer P w H s Q E) s
section
variable {P : Program} {w : World} {K : Fg} {mg : Str → Option Value} {base : Heap} {k : Nat} {f : Addr} {fd : FuncData} {ps : List Str} {sp : Sp}
theorem FnG.mono {j : Nat} (F : FnG P w K mg base j f fd ps sp) (h : j ≤ k) : FnG P w K mg base k f fd ps sp := ⟨F.len, fun A g hr => F.go A g (hr.mono h)⟩
/-- a def of the text, by its body -/
theorem fn_g {x qual : Str} {st : Stmt} {N : List Str} (F : Fun K x qual st f fd) (S : FnScope N ps (defScope st)) (len : ∀ vs H Q E, sp vs H Q E → vs.length = ps.length)
    (body : ∀ (cdv : Value) (A : Around) (outer : List PySem.Env) (s : Shared) (H : Hp) (vs : List V) (Q : VK) (E : XK), (A.deeper (envOfC qual (defScope st) s.heap.objs.size f cdv)).guards = some [] → Room k (A.deeper (envOfC qual (defScope st) s.heap.objs.size f cdv)) → sp vs H Q E →
      ∃ t, PSs (cxOf (L2.CX P w) P w K mg base N qual (defScope st) f cdv A outer s H E) (defBody st) t ∧ t { nx := fun _ H' => Q .non H', rt := Q } (L2.start N vs) H) : FnG P w K mg base (k + 1) f fd ps sp := by
  obtain ⟨oc, od, kV, doc, pm, an, cdv, ct, osl, rfl, lk, hcd⟩ := F.ex
  refine ⟨len, fun A hg hr outer s H args us vs Q E e0 hb r hsp => ?_⟩
  have hl := len _ _ _ _ hsp
  have stay : ∀ b o, base.get? b = some o → s.heap.get? b = some o := fun b o e => (e0.bs b o e).1
  have KX : K.In s.heap := e0.mod.kin.keeps stay
  have kinds : ∀ y ∈ ps.zip us, (defScope st).names.lookup y.1 = some .local ∨ ((defScope st).names.lookup y.1 = some .cell ∧ ((cellsFrom (s.heap.objs.size + 1) (defScope st).names []).lookup y.1).isSome = true) := by
    rintro ⟨n, v⟩ hy
    rcases S.par n (List.of_mem_zip hy).1 with q | q
    · exact Or.inl q
    · exact Or.inr ⟨q, PySem.W.cellsFrom_some _ _ _ (Or.inl q)⟩
  refine codeAny_call_function hr.depth (KX _ _ lk) rfl S.co S.gen rfl (PySem.W.codeRec_of KX hcd) (hb _ _ _ _ (wpAny_newFunctionEnv_cells S.kind kinds ?_))
  intro env he s1 x
  subst he
  refine ⟨(e0.mod.nolimit.keeps stay).keeps x.toInCall.keep, codeAny_func ?_⟩
  obtain ⟨t, ht, hq⟩ := body cdv A outer s H vs Q E hg (hr.deeper _) hsp
  refine wpAny_mono (ht.run [] s1 _ H _ (inv_start S hr.hd e0 hl r x) hq) ?_ fun _ _ h => h
  intro fl s' hs
  cases fl with
  | ret u =>
    obtain ⟨v, σ', H', J, rv, q⟩ := hs
    exact ⟨v, H', J.os, J.bare, J.base, J.hok, rv, q⟩
  | next =>
    obtain ⟨σ', H', J, q⟩ := hs
    exact ⟨V.non, H', J.os, J.bare, J.base, J.hok, rfl, q⟩
  | brk => exact hs.elim fun _ h => h.elim fun _ h => h.2.elim
  | cont => exact hs.elim fun _ h => h.elim fun _ h => h.2.elim
end
/-! ### a def over data -/
section
variable {P : Program} {w : World} {K : Fg} {mg : Str → Option Value} {base : Heap} {k : Nat} {f : Addr} {fd : FuncData} {ps : List Str}
theorem spD_len {ms : List Md} {sd : DSp} (hl : ms.length = ps.length) : ∀ vs H Q E, spD K ms sd vs H Q E → vs.length = ps.length := fun vs H Q E ⟨O, ds, Qd, Ed, A, _⟩ => by rw [A.len.1, hl]
/-- the link at a def's end -/
theorem link_end {ms : List Md} {vs : List V} {ds : List D} {O : List Addr} {H : Hp} {Q : VK} {Qd : Bool → D → List D → Prop} (A : ArgsOk K O H (mAddrs ms vs) ms vs ds)
    (k : ∀ v H' O' b d ds', PostOk K O H ms vs H' O' → MsOk K O' H' ms vs ds' → ResOk K H H' O' v b d → Qd b d ds' → Q v H') : Link (ctx0 K O H ms vs) { nx := fun _ H' => Q .non H', rt := Q } (endsD ms Qd) where
  nx := fun Γ O' σ H' R h => by
    obtain ⟨p, m⟩ := post_of A R
    exact k .non H' O' false .non _ p m .non h
  rt := fun r Γ O' σ H' v hr h => by
    cases r with
    | val d =>
      obtain ⟨p, m⟩ := post_of A hr.1
      exact k v H' O' false d _ p m hr.2 h
    | fr d =>
      obtain ⟨_, q, o, rfl, h2, h3, h4, h5, R⟩ := hr
      obtain ⟨p, m⟩ := post_of A R
      exact k _ H' (q :: O') true d _ p m ⟨q, o, rfl, List.mem_cons_self, h4, h2, h5⟩ h
    | pl i =>
      obtain ⟨d, hd, h⟩ := h
      obtain ⟨p, m⟩ := post_of A hr.1
      obtain ⟨l, o, h1, h2, h3, h4, h5⟩ := hr.1.sl i _ hd
      have e : σ[i]? = some (some v) := hr.2
      rw [h1] at e
      cases e
      exact k _ H' O' true d _ p m ⟨l, o, rfl, h2, h3, h4, h5⟩ h
  bk := fun _ _ _ _ _ h => h.elim
  ct := fun _ _ _ _ _ h => h.elim
/-- THE RULE for a def that lets no exception out -/
theorem fn_d {x qual : Str} {st : Stmt} {N : List Str} {ms : List Md} {sd : DSp} (F : Fun K x qual st f fd) (S : FnScope N ps (defScope st)) (hl : ms.length = ps.length)
    (body : ∀ (cdv : Value) (A : Around) (outer : List PySem.Env) (s : Shared) (H0 : Hp) (vs : List V) (E : XK) (O : List Addr) (H : Hp), (A.deeper (envOfC qual (defScope st) s.heap.objs.size f cdv)).guards = some [] → Room k (A.deeper (envOfC qual (defScope st) s.heap.objs.size f cdv)) →
      ∃ t m, DSs (cxOf (L2.CX P w) P w K mg base N qual (defScope st) f cdv A outer s H0 E).nox (ctx0 K O H ms vs) (defBody st) t m ∧ ∀ ds Qd Ed, ds.length = ms.length → sd ds Qd Ed → m (endsD ms Qd) (startD N ms ds)) : FnG P w K mg base (k + 1) f fd ps (spD K ms sd) :=
  fn_g F S (spD_len hl) fun cdv A outer s H vs Q E hg hr hsp => by
    obtain ⟨O, ds, Qd, Ed, AO, al, nd, hsd, post, _⟩ := hsp
    obtain ⟨t, m, d, hm⟩ := body cdv A outer s H vs E O H hg hr
    exact ⟨t, d.pss.nox, d.sim _ _ _ _ _ _ (relO_start AO al nd) (hm ds Qd Ed AO.len.2 hsd) (link_end AO post)⟩
end
/-! ### a call -/
section
variable {X : Cx} {k : Nat} {f : Addr} {fd : FuncData} {ps : List Str} {sp : Sp} {dvs : List V} {ds : List Value} {x : Str} {p pos : Pos} {e : Expr} {es : List Expr} {t : TA} {E : XK}
theorem run_g {pins : List (Addr × Obj)} {σ : L2.St} {H : Hp} {s : Shared} {Q : VK} {us : List Value} {vs : List V} (F : FnG X.prog X.w X.K X.mg X.base k f fd ps sp) (hg : X.A.guards = some []) (hr : Room k X.A) (hb : Binds X.K fd ps ds) (hd : Vals dvs ds) (hx : Passes (L2.CX X.prog X.w) X E)
    (I : Inv X pins σ H s) (r : Vals vs us) (h : sp (vs ++ dvs) H Q E) : wpAny (model X.prog X.w) X.A (call (.ref f) us) (EP X pins σ Q) X.xe s := by
  have r2 : Vals (vs ++ dvs) (us ++ ds) := r.append hd
  refine wpAny_call (codeAny_mono (F.go X.A hg hr X.stack s H ⟨us, []⟩ (us ++ ds) (vs ++ dvs) Q E I.env0 (hb s us I.kIn (by rw [← r2.length]; exact F.len _ _ _ _ h)) r2 h) ?_)
  intro r s' hq
  match r, hq with
  | .error e, hq => exact hx pins σ H s e s' I hq
  | .ok (.ret u), hq => exact I.after hq
  | .ok .next, hq => exact False.elim hq
  | .ok .brk, hq => exact False.elim hq
  | .ok .cont, hq => exact False.elim hq
theorem pe_g (F : FnG X.prog X.w X.K X.mg X.base k f fd ps sp) (hg : X.A.guards = some []) (hr : Room k X.A) (hgl : Gl X x) (hm : X.mg x = some (.ref f)) (hk : PySem.W.keepIn X.K (.ref f) = true) (hb : Binds X.K fd ps ds) (hd : Vals dvs ds) (hx : Passes (L2.CX X.prog X.w) X E)
    (ha : PA X (e :: es) t) (hdb : (x == ("__debug__" : Str)) = false := by decide) (he : starEach (e :: es) X.env = (false, eval e X.env) :: starEach es X.env := by rfl) (hpl : (backTo pos (starEach es X.env)).any (·.1) = false := by rfl) : PE X (.Call (.Name x p) (e :: es) [] pos) (tCall sp dvs E t) :=
  ⟨fun pins s σ H Q I h => wpAny_Call_Name_kw (ld_glob I hgl hm (PySem.W.callWith_K (h₀ := X.base) I.ok.mod.kin hk (thn (ha.run pos pins s σ H _ I h) fun us s1 ⟨vs, H1, I1, r, q⟩ => ⟨I1.kIn, run_g F hg hr hb hd hx I1 r q⟩) he hpl) hdb)⟩
end
/-- the arguments over data -/
def arg1 (Γ : Env) : Md → Res → Option D
  | .S, r => dat r
  | .B, r => rd Γ r
  | .M, .pl i => match Γ[i]? with
    | some (.ow d) => some d
    | some (.io d) => some d
    | _ => none
  | .M, _ => none
def argsD (Γ : Env) : List Md → List Res → Option (List D)
  | [], [] => some []
  | m :: ms, r :: rs => match arg1 Γ m r, argsD Γ ms rs with
    | some d, some ds => some (d :: ds)
    | _, _ => none
  | _, _ => none
def mPl1 : Md → Res → List Nat
  | .M, .pl i => [i]
  | _, _ => []
def mPls : List Md → List Res → List Nat
  | m :: ms, r :: rs => mPl1 m r ++ mPls ms rs
  | _, _ => []
def bPl1 : Md → Res → List Nat
  | .B, .pl i => [i]
  | _, _ => []
def bPls : List Md → List Res → List Nat
  | m :: ms, r :: rs => bPl1 m r ++ bPls ms rs
  | _, _ => []
def apartB (ms : List Md) (rs : List Res) : Bool := decide (mPls ms rs).Nodup && (bPls ms rs).all fun i => decide (i ∉ mPls ms rs)
/-- the changed places hold what the callee left there -/
def putsD : List Nat → List D → Env → Option Env
  | [], [], Γ => some Γ
  | i :: is, d :: ds, Γ => match setC Γ i d with
    | some Γ1 => putsD is ds Γ1
    | none => none
  | _, _, _ => none
def noX : EdT := fun _ _ _ => False
def mCall (ms : List Md) (sd : DSp) (ma : DTA) : DTE := fun Γ Q => ma Γ fun rs Γ1 => ∃ ds, argsD Γ1 ms rs = some ds ∧ apartB ms rs = true ∧
  sd ds (fun b d ds' => ∃ Γ2, putsD (mPls ms rs) ds' Γ1 = some Γ2 ∧ Q (if b = true then .fr d else .val d) Γ2) noX
section
variable {C : Ctx} {Γ : Env} {O O' : List Addr} {σ : L2.St} {H H' : Hp}
/-- fewer owned addresses -/
theorem RelO.shrink (R : RelO C Γ O' σ H) (hs : ∀ a ∈ O, a ∈ O') (hm : ∀ i a, MutAt Γ σ i a → a ∈ O) (hu : ∀ q ∈ C.U, q.1 ∈ O) (h0 : ∀ a ∈ C.O0, a ∈ O) : RelO C Γ O σ H ∧ Same (hide O' H) (hide O H) := by
  have e : Same (hide O' H) (hide O H) := hide_sub hs
  refine ⟨⟨fun i s es => ?_, R.ds, R.fr, R.mm, R.bb, h0, fun a ha => R.al a (hs a ha), fun a ha => R.ol a (hs a ha), R.o0, fun q hq => (R.tt q hq).mono e, fun q hq => ⟨(R.uu q hq).1, hu q hq, (R.uu q hq).2.2⟩, R.len⟩, e⟩
  have q := R.sl i s es
  cases s with
  | no => trivial
  | sh d => obtain ⟨v, h1, h2⟩ := q; exact ⟨v, h1, h2.mono e⟩
  | ow d => obtain ⟨l, u, h1, h2, h3, h4, h5⟩ := q; exact ⟨l, u, h1, hm i l ⟨⟨d, .inl es⟩, h1⟩, h3, h4, h5.mono e⟩
  | io d => obtain ⟨l, u, h1, h2, h3, h4, h5⟩ := q; exact ⟨l, u, h1, h2, hm i l ⟨⟨d, .inr es⟩, h1⟩, h4, h5.mono e⟩
  | bo d =>
    obtain ⟨v, h1, h2, h3⟩ := q
    refine ⟨v, h1, h2, ?_⟩
    rcases h3 with h3 | ⟨l, u, h3, h4, h5, h6⟩
    · exact .inl (h3.mono e)
    · exact .inr ⟨l, u, h3, h4, h5, h6.mono e⟩
/-- the places that a call changes: slot and address -/
inductive Chg (σ : L2.St) : List Nat → List Addr → Prop
  | nil : Chg σ [] []
  | cons {i : Nat} {a : Addr} {is : List Nat} {as : List Addr} : σ[i]? = some (some (.ref a)) → Chg σ is as → Chg σ (i :: is) (a :: as)
inductive Now (K : Fg) (O : List Addr) (H : Hp) : List Addr → List D → Prop
  | nil : Now K O H [] []
  | cons {a : Addr} {o : HO} {d : D} {as : List Addr} {ds : List D} : H a = some o → OwnOk K (hide O H) o d → Now K O H as ds → Now K O H (a :: as) (d :: ds)
theorem Chg.at : ∀ {is : List Nat} {as : List Addr} {a : Addr}, Chg σ is as → a ∈ as → ∃ i ∈ is, σ[i]? = some (some (.ref a))
  | _, _, _, .nil, h => absurd h (by simp)
  | _, _, _, .cons e t, h => by
    rcases List.mem_cons.mp h with z | z
    · subst z; exact ⟨_, List.mem_cons_self, e⟩
    · obtain ⟨i, hi, q⟩ := t.at z
      exact ⟨i, List.mem_cons_of_mem _ hi, q⟩
/-- kinds of slots stay -/
theorem setC_kind {Γ' : Env} {i : Nat} {d : D} (h : setC Γ i d = some Γ') : (∃ d0, (Γ[i]? = some (.ow d0) ∧ Γ' = Γ.set i (.ow d)) ∨ (Γ[i]? = some (.io d0) ∧ Γ' = Γ.set i (.io d))) := by
  unfold setC at h
  split at h
  · rename_i d0 e; cases h; exact ⟨d0, .inl ⟨e, rfl⟩⟩
  · rename_i d0 e; cases h; exact ⟨d0, .inr ⟨e, rfl⟩⟩
  · cases h
/-- behind a call: the named slots hold the new data, at the new heap with new owned addresses -/
structure Aft (C : Ctx) (Γ : Env) (O : List Addr) (σ : L2.St) (H : Hp) (as : List Addr) (O' : List Addr) (H' : Hp) : Prop where
  sub : ∀ a ∈ O, a ∈ O'
  new : ∀ a ∈ O', a ∈ O ∨ H a = none
  al : ∀ a ∈ O', H' a ≠ none
  fr : ∀ a o, H a = some o → a ∉ as → H' a = some o
theorem aft_same {as : List Addr} (Af : Aft C Γ O σ H as O' H') (ha : ∀ a ∈ as, a ∈ O) : Same (hide O H) (hide O' H') := fun b u e => by
  obtain ⟨n, e⟩ := hide_some e
  have hb : b ∉ O' := fun z => by
    rcases Af.new b z with q | q
    · exact n q
    · rw [q] at e; cases e
  rw [hide_out hb]
  exact Af.fr b u e fun z => n (ha b z)
theorem setC_len {Γ' : Env} {i : Nat} {d : D} (h : setC Γ i d = some Γ') : Γ'.length = Γ.length := by
  obtain ⟨d0, ⟨_, e⟩ | ⟨_, e⟩⟩ := setC_kind h <;> rw [e, List.length_set]
/-- what putsD does, slot by slot -/
theorem putsD_at : ∀ {is : List Nat} {ds : List D} {Γ Γ' : Env}, putsD is ds Γ = some Γ' → is.Nodup → Γ'.length = Γ.length ∧ (∀ j, j ∉ is → Γ'[j]? = Γ[j]?) ∧
    ∀ (as : List Addr), as.length = is.length → ∀ (R : Nat → Addr → D → Prop), (∀ (n i : Nat) (a : Addr) (d : D), is[n]? = some i → as[n]? = some a → ds[n]? = some d → R i a d) → ∀ (n i : Nat) (a : Addr), is[n]? = some i → as[n]? = some a → ∃ d d0, R i a d ∧ ((Γ[i]? = some (.ow d0) ∧ Γ'[i]? = some (.ow d)) ∨ (Γ[i]? = some (.io d0) ∧ Γ'[i]? = some (.io d)))
  | [], [], Γ, Γ', h, _ => by
    cases h
    exact ⟨rfl, fun _ _ => rfl, fun as hl R hR n i a h1 => by cases h1⟩
  | [], _ :: _, _, _, h, _ => by cases h
  | _ :: _, [], _, _, h, _ => by cases h
  | i :: is, d :: ds, Γ, Γ', h, nd => by
    unfold putsD at h
    split at h
    · rename_i Γ1 e1
      obtain ⟨n1, n2⟩ := List.nodup_cons.mp nd
      obtain ⟨l1, l2, l3⟩ := putsD_at h n2
      have hil : i < Γ.length := by
        obtain ⟨d0, ⟨e, _⟩ | ⟨e, _⟩⟩ := setC_kind e1 <;> exact (List.getElem?_eq_some_iff.mp e).1
      refine ⟨by rw [l1, setC_len e1], fun j hj => ?_, fun as hl R hR n j a h1 h2 => ?_⟩
      · rw [l2 j fun z => hj (List.mem_cons_of_mem _ z)]
        have hne : i ≠ j := fun z => hj (by simp [z])
        obtain ⟨d0, ⟨_, e⟩ | ⟨_, e⟩⟩ := setC_kind e1 <;> rw [e, get_set_ne hne]
      · cases as with
        | nil => cases h2
        | cons a' as =>
          cases n with
          | zero =>
            cases h1; cases h2
            refine ⟨d, ?_⟩
            obtain ⟨d0, ⟨e, e'⟩ | ⟨e, e'⟩⟩ := setC_kind e1
            · exact ⟨d0, hR 0 _ _ _ rfl rfl rfl, .inl ⟨e, by rw [l2 i n1, e']; exact List.getElem?_set_self hil⟩⟩
            · exact ⟨d0, hR 0 _ _ _ rfl rfl rfl, .inr ⟨e, by rw [l2 i n1, e']; exact List.getElem?_set_self hil⟩⟩
          | succ n =>
            obtain ⟨d2, d0, r, q⟩ := l3 as (by simpa using hl) R (fun n i a d h1 h2 h3 => hR (n + 1) i a d h1 h2 h3) n j a h1 h2
            have hne : i ≠ j := fun z => n1 (by rw [z]; exact List.mem_of_getElem? h1)
            refine ⟨d2, d0, r, ?_⟩
            have e1' : Γ1[j]? = Γ[j]? := by
              obtain ⟨d0, ⟨_, e⟩ | ⟨_, e⟩⟩ := setC_kind e1 <;> rw [e, get_set_ne hne]
            rw [e1'] at q
            exact q
    · cases h
theorem Chg.len : ∀ {is : List Nat} {as : List Addr}, Chg σ is as → as.length = is.length
  | _, _, .nil => rfl
  | _, _, .cons _ t => by rw [List.length_cons, List.length_cons, t.len]
theorem Chg.get : ∀ {is : List Nat} {as : List Addr} {n i : Nat} {a : Addr}, Chg σ is as → is[n]? = some i → as[n]? = some a → σ[i]? = some (some (.ref a))
  | _, _, _, _, _, .nil, h, _ => by cases h
  | _, _, 0, _, _, .cons e t, h1, h2 => by cases h1; cases h2; exact e
  | _, _, n + 1, _, _, .cons e t, h1, h2 => t.get (n := n) h1 h2
theorem Now.get {K : Fg} : ∀ {as : List Addr} {ds : List D} {n : Nat} {a : Addr} {d : D}, Now K O H as ds → as[n]? = some a → ds[n]? = some d → ∃ o, H a = some o ∧ OwnOk K (hide O H) o d
  | _, _, _, _, _, .nil, h, _ => by cases h
  | _, _, 0, _, _, .cons e q t, h1, h2 => by cases h1; cases h2; exact ⟨_, e, q⟩
  | _, _, n + 1, _, _, .cons e q t, h1, h2 => t.get (n := n) h1 h2
theorem rel_after {Γ' : Env} {is : List Nat} {as : List Addr} {ds : List D} (R : RelO C Γ O σ H) (hc : Chg σ is as) (nd : is.Nodup) (hmu : ∀ i ∈ is, ∃ d, Γ[i]? = some (.ow d) ∨ Γ[i]? = some (.io d)) (hp : putsD is ds Γ = some Γ') (Af : Aft C Γ O σ H as O' H') (hn : Now C.K O' H' as ds) :
    RelO C Γ' O' σ H' ∧ Same (hide O H) (hide O' H') := by
  obtain ⟨l1, l2, l3⟩ := putsD_at hp nd
  have mutI : ∀ i ∈ is, ∀ a, σ[i]? = some (some (.ref a)) → MutAt Γ σ i a := fun i hi a e => ⟨hmu i hi, e⟩
  have asM : ∀ a ∈ as, ∃ i ∈ is, MutAt Γ σ i a := fun a ha => by
    obtain ⟨i, hi, e⟩ := hc.at ha
    exact ⟨i, hi, mutI i hi a e⟩
  have asO : ∀ a ∈ as, a ∈ O := fun a ha => by
    obtain ⟨i, _, m⟩ := asM a ha
    exact R.mutIn m
  have e := aft_same Af asO
  have sp := l3 as hc.len (fun i a d => ∃ o, H' a = some o ∧ OwnOk C.K (hide O' H') o d) fun n i a d h1 h2 h3 => hn.get h2 h3
  have inIs : ∀ j ∈ is, ∃ n a, is[n]? = some j ∧ as[n]? = some a ∧ σ[j]? = some (some (.ref a)) := fun j hj => by
    obtain ⟨n, hn', e⟩ := List.mem_iff_getElem.mp hj
    have hla : n < as.length := by rw [hc.len]; exact hn'
    have h1 : is[n]? = some j := by rw [List.getElem?_eq_getElem hn', e]
    have h2 : as[n]? = some as[n] := List.getElem?_eq_getElem hla
    exact ⟨n, as[n], h1, h2, hc.get h1 h2⟩
  have kind : ∀ j a, MutAt Γ' σ j a → MutAt Γ σ j a := fun j a ⟨⟨d, h⟩, h2⟩ => by
    by_cases hj : j ∈ is
    · exact mutI j hj a h2
    · rw [l2 j hj] at h; exact ⟨⟨d, h⟩, h2⟩
  have notAs : ∀ j a, j ∉ is → MutAt Γ σ j a → a ∉ as := fun j a hj m z => by
    obtain ⟨i, hi, m2⟩ := asM a z
    exact R.ds i j a (fun z => hj (z ▸ hi)) m2 m
  refine ⟨⟨fun j s h => ?_, fun i j a n h1 h2 => R.ds i j a n (kind _ _ h1) (kind _ _ h2), fun a o h n => ?_, fun q hq => ?_, fun q hq => ?_, fun a ha => Af.sub a (R.oo a ha), Af.al, fun a ha => ?_, R.o0, fun q hq => (R.tt q hq).mono e, fun q hq => ⟨?_, Af.sub _ (R.uu q hq).2.1, fun i hi => (R.uu q hq).2.2 i (kind _ _ hi)⟩, by rw [l1]; exact R.len⟩, e⟩
  · by_cases hj : j ∈ is
    · obtain ⟨n, a, h1, h2, h3⟩ := inIs j hj
      obtain ⟨d, d0, ⟨o, q1, q2⟩, ⟨q3, q4⟩ | ⟨q3, q4⟩⟩ := sp n j a h1 h2
      · rw [q4] at h; cases h
        obtain ⟨l, o', g1, g2, g3, _⟩ := R.sl j _ q3
        rw [h3] at g1; cases g1
        exact ⟨a, o, h3, Af.sub _ g2, g3, q1, q2⟩
      · rw [q4] at h; cases h
        obtain ⟨l, o', g1, g2, g3, _⟩ := R.sl j _ q3
        rw [h3] at g1; cases g1
        exact ⟨a, o, h3, g2, Af.sub _ g3, q1, q2⟩
    · rw [l2 j hj] at h
      have q := R.sl j s h
      cases s with
      | no => trivial
      | sh d => obtain ⟨v, h1, h2⟩ := q; exact ⟨v, h1, h2.mono e⟩
      | ow d => obtain ⟨l, u, h1, h2, h3, h4, h5⟩ := q; exact ⟨l, u, h1, Af.sub _ h2, h3, Af.fr _ _ h4 (notAs j l hj ⟨⟨d, .inl h⟩, h1⟩), h5.mono e⟩
      | io d => obtain ⟨l, u, h1, h2, h3, h4, h5⟩ := q; exact ⟨l, u, h1, h2, Af.sub _ h3, Af.fr _ _ h4 (notAs j l hj ⟨⟨d, .inr h⟩, h1⟩), h5.mono e⟩
      | bo d =>
        obtain ⟨v, h1, h2, h3⟩ := q
        refine ⟨v, h1, h2, ?_⟩
        rcases h3 with h3 | ⟨l, u, h3, h4, h5, h6⟩
        · exact .inl (h3.mono e)
        · exact .inr ⟨l, u, h3, h4, h5, h6.mono e⟩
  · refine Af.fr a o (R.fr a o h n) fun z => ?_
    obtain ⟨i, hi, ⟨⟨d, m | m⟩, m2⟩⟩ := asM a z
    · obtain ⟨l, o', g1, g2, g3, _⟩ := R.sl i _ m
      rw [m2] at g1; cases g1
      rw [h] at g3; cases g3
    · obtain ⟨l, o', g1, g2, _⟩ := R.sl i _ m
      rw [m2] at g1; cases g1
      exact n _ g2 rfl
  · obtain ⟨h1, d, h2⟩ := R.mm q hq
    refine ⟨h1, ?_⟩
    by_cases hj : q.1 ∈ is
    · obtain ⟨n, a, g1, g2, g3⟩ := inIs _ hj
      obtain ⟨d', d0, _, ⟨q3, q4⟩ | ⟨q3, q4⟩⟩ := sp n _ a g1 g2
      · rw [h2] at q3; cases q3
      · exact ⟨d', q4⟩
    · exact ⟨d, by rw [l2 _ hj]; exact h2⟩
  · obtain ⟨h1, d, h2⟩ := R.bb q hq
    refine ⟨h1, d, ?_⟩
    by_cases hj : q.1 ∈ is
    · obtain ⟨d', h | h⟩ := hmu _ hj <;> rw [h2] at h <;> cases h
    · rw [l2 _ hj]; exact h2
  · rcases Af.new a ha with z | z
    · exact R.ol a z
    · exact .inr (R.fresh0 z)
  · refine Af.fr _ _ (R.uu q hq).1 fun z => ?_
    obtain ⟨i, hi, m⟩ := asM _ z
    exact (R.uu q hq).2.2 i m
end
end DL
/-! the data layer, part 10: a call over data; the end of a law -/
namespace DL
open PySem PySem.Spec PyProof.Rows L2
section
variable {C : Ctx} {Γ : Env} {O O' : List Addr} {σ : L2.St} {H H' : Hp}
theorem chg_of (R : RelO C Γ O σ H) : ∀ {ms : List Md} {rs : List Res} {vs : List V} {ds : List D}, Pends C.K O σ H vs rs → argsD Γ ms rs = some ds → Chg σ (mPls ms rs) (mAddrs ms vs) ∧ ∀ i ∈ mPls ms rs, ∃ d, Γ[i]? = some (.ow d) ∨ Γ[i]? = some (.io d)
  | [], [], _, _, .nil, _ => ⟨.nil, fun _ h => absurd h (by simp [mPls])⟩
  | [], _ :: _, _, _, .cons _ _, h => by cases h
  | _ :: _, [], _, _, .nil, h => by cases h
  | m :: ms, r :: rs, _, ds, .cons (v := v) (vs := vs) hp ht, h => by
    unfold argsD at h
    split at h
    · rename_i d ds' e1 e2
      cases h
      obtain ⟨c, k⟩ := chg_of R ht e2
      cases m with
      | S =>
        unfold mPls mAddrs
        rw [mA_S]
        cases r <;> exact ⟨c, k⟩
      | B =>
        unfold mPls mAddrs
        rw [mA_B]
        cases r <;> exact ⟨c, k⟩
      | M =>
        cases r with
        | val d => cases e1
        | fr d => cases e1
        | pl i =>
          have hp : σ[i]? = some (some v) := hp
          have e1 : (match Γ[i]? with | some (.ow d) => some d | some (.io d) => some d | _ => none) = some d := e1
          have km : ∃ d, Γ[i]? = some (.ow d) ∨ Γ[i]? = some (.io d) := by
            split at e1
            · rename_i d' q; exact ⟨d', .inl q⟩
            · rename_i d' q; exact ⟨d', .inr q⟩
            · cases e1
          obtain ⟨d', q⟩ := km
          have hv : ∃ a, v = .ref a := by
            rcases q with q | q
            · obtain ⟨l, o, g, _⟩ := R.sl i _ q
              rw [hp] at g; cases g; exact ⟨l, rfl⟩
            · obtain ⟨l, o, g, _⟩ := R.sl i _ q
              rw [hp] at g; cases g; exact ⟨l, rfl⟩
          obtain ⟨a, rfl⟩ := hv
          refine ⟨.cons hp c, fun j hj => ?_⟩
          have hj : j ∈ i :: mPls ms rs := hj
          rcases List.mem_cons.mp hj with z | z
          · subst z; exact ⟨d', q⟩
          · exact k j z
    · cases h
theorem args_of (R : RelO C Γ O σ H) {P : List Nat} {Ms : List Addr} (hc : Chg σ P Ms) (hmu : ∀ i ∈ P, ∃ d, Γ[i]? = some (.ow d) ∨ Γ[i]? = some (.io d)) : ∀ {ms : List Md} {rs : List Res} {vs : List V} {ds : List D}, Pends C.K O σ H vs rs → argsD Γ ms rs = some ds → (∀ i ∈ bPls ms rs, i ∉ P) → ArgsOk C.K O H Ms ms vs ds
  | [], [], _, _, .nil, h, _ => by cases h; exact .nil
  | [], _ :: _, _, _, .cons _ _, h, _ => by cases h
  | _ :: _, [], _, _, .nil, h, _ => by cases h
  | m :: ms, r :: rs, _, ds, .cons (v := v) (vs := vs) hp ht, h, hb => by
    unfold argsD at h
    split at h
    · rename_i d ds' e1 e2
      cases h
      have t := args_of R hc hmu ht e2 fun i hi => hb i (List.mem_append_right _ hi)
      cases m with
      | S => exact .S (hp.dat e1) t
      | B =>
        refine .B ?_ t
        cases r with
        | val d' => cases e1; exact .inl hp
        | fr d' => cases e1; exact .inl hp
        | pl i =>
          have hp : σ[i]? = some (some v) := hp
          have e1 : cont Γ[i]? = some d := e1
          have hi : i ∉ P := hb i (List.mem_append_left _ (List.mem_singleton.mpr rfl))
          cases q : Γ[i]? with
          | none => rw [q] at e1; cases e1
          | some s =>
            rw [q] at e1
            have k := R.sl i s q
            cases s with
            | no => cases e1
            | sh d' => cases e1
            | ow d' =>
              cases e1
              obtain ⟨l, o, h1, h2, h3, h4, h5⟩ := k
              rw [hp] at h1; cases h1
              refine .inr ⟨l, o, rfl, h4, fun z => ?_, h5⟩
              obtain ⟨j, hj, e⟩ := hc.at z
              exact R.ds i j l (fun z => hi (z ▸ hj)) ⟨⟨_, .inl q⟩, hp⟩ ⟨hmu j hj, e⟩
            | io d' =>
              cases e1
              obtain ⟨l, o, h1, h2, h3, h4, h5⟩ := k
              rw [hp] at h1; cases h1
              refine .inr ⟨l, o, rfl, h4, fun z => ?_, h5⟩
              obtain ⟨j, hj, e⟩ := hc.at z
              exact R.ds i j l (fun z => hi (z ▸ hj)) ⟨⟨_, .inr q⟩, hp⟩ ⟨hmu j hj, e⟩
            | bo d' =>
              cases e1
              obtain ⟨v', h1, h2, h3⟩ := k
              rw [hp] at h1; cases h1
              rcases h3 with h3 | ⟨l, o, h3, h4, h5, h6⟩
              · exact .inl h3
              · refine .inr ⟨l, o, h3, R.fr l o h4 h5, fun z => ?_, h6⟩
                obtain ⟨j, hj, e⟩ := hc.at z
                obtain ⟨dj, g | g⟩ := hmu j hj
                · obtain ⟨l2, o2, g1, g2, g3, _⟩ := R.sl j _ g
                  rw [e] at g1; cases g1
                  rw [h4] at g3; cases g3
                · obtain ⟨l2, o2, g1, g2, _⟩ := R.sl j _ g
                  rw [e] at g1; cases g1
                  exact h5 _ g2 rfl
      | M =>
        cases r with
        | val d => cases e1
        | fr d => cases e1
        | pl i =>
          have hp : σ[i]? = some (some v) := hp
          have e1 : (match Γ[i]? with | some (.ow d) => some d | some (.io d) => some d | _ => none) = some d := e1
          split at e1
          · rename_i d' q
            cases e1
            obtain ⟨l, o, h1, h2, h3, h4, h5⟩ := R.sl i _ q
            rw [hp] at h1; cases h1
            exact .M h2 h4 h5 t
          · rename_i d' q
            cases e1
            obtain ⟨l, o, h1, h2, h3, h4, h5⟩ := R.sl i _ q
            rw [hp] at h1; cases h1
            exact .M h3 h4 h5 t
          · cases e1
    · cases h
theorem chg_nodup (R : RelO C Γ O σ H) : ∀ {is : List Nat} {as : List Addr}, Chg σ is as → (∀ i ∈ is, ∃ d, Γ[i]? = some (.ow d) ∨ Γ[i]? = some (.io d)) → is.Nodup → as.Nodup
  | _, _, .nil, _, _ => List.nodup_nil
  | _, _, .cons (i := i) (a := a) e t, hmu, nd => by
    obtain ⟨n1, n2⟩ := List.nodup_cons.mp nd
    refine List.nodup_cons.mpr ⟨fun z => ?_, chg_nodup R t (fun i hi => hmu i (List.mem_cons_of_mem _ hi)) n2⟩
    obtain ⟨j, hj, ej⟩ := t.at z
    exact R.ds i j a (fun z => n1 (z ▸ hj)) ⟨hmu i List.mem_cons_self, e⟩ ⟨hmu j (List.mem_cons_of_mem _ hj), ej⟩
theorem now_of {K : Fg} {ms : List Md} {vs : List V} {ds : List D} (h : MsOk K O H ms vs ds) : Now K O H (mAddrs ms vs) ds := by
  induction h with
  | nil => exact .nil
  | S _ ih => unfold mAddrs; rw [mA_S]; exact ih
  | B _ ih => unfold mAddrs; rw [mA_B]; exact ih
  | M h1 h2 _ ih => exact .cons h1 h2 ih
theorem mutAt_put {Γ' : Env} {is : List Nat} {ds : List D} (hp : putsD is ds Γ = some Γ') (nd : is.Nodup) (hmu : ∀ i ∈ is, ∃ d, Γ[i]? = some (.ow d) ∨ Γ[i]? = some (.io d)) {j : Nat} {a : Addr} (h : MutAt Γ' σ j a) : MutAt Γ σ j a := by
  obtain ⟨_, l2, _⟩ := putsD_at hp nd
  by_cases hj : j ∈ is
  · exact ⟨hmu j hj, h.2⟩
  · obtain ⟨⟨d, h1⟩, h2⟩ := h
    rw [l2 j hj] at h1
    exact ⟨⟨d, h1⟩, h2⟩
/-- a call, its arguments being there -/
theorem call_core {Γ1 : Env} {H1 : Hp} {ms : List Md} {sd : DSp} {rs : List Res} {vs : List V} {ds : List D} {Qd : QE} {Q : VK} {E : XK} {Ed : EdT} (R1 : RelO C Γ1 O σ H1) (p1 : Pends C.K O σ H1 vs rs) (hd : argsD Γ1 ms rs = some ds) (hap : apartB ms rs = true)
    (hsd : sd ds (fun b d ds' => ∃ Γ2, putsD (mPls ms rs) ds' Γ1 = some Γ2 ∧ Qd (if b = true then .fr d else .val d) Γ2) Ed) (k : ∀ r Γ' v H', ROk C Γ' O σ H' v r → SE O H1 H' v r → Qd r Γ' → Q v H')
    (kx : ∀ n c d H' O' fds ds', (∀ Γ2, putsD (mPls ms rs) ds' Γ1 = some Γ2 → RelO C Γ2 O' σ H' ∧ Same (hide O H1) (hide O' H')) → XNm C.K n c → XdOk C.K H1 H' d fds → Ed n fds ds' → E (.ref c) d H') : spD C.K ms sd vs H1 Q E := by
  unfold apartB at hap
  rw [Bool.and_eq_true] at hap
  have nd : (mPls ms rs).Nodup := of_decide_eq_true hap.1
  have hb : ∀ i ∈ bPls ms rs, i ∉ mPls ms rs := fun i hi => of_decide_eq_true (List.all_eq_true.mp hap.2 i hi)
  obtain ⟨hc, hmu⟩ := chg_of R1 p1 hd
  have hargs := args_of R1 hc hmu p1 hd hb
  have ndA := chg_nodup R1 hc hmu nd
  refine ⟨O, ds, _, Ed, hargs, R1.al, ndA, hsd, fun v H' O' b d ds' post hms hres hq => ?_, fun n c d H' O' fds ds' post hms hn hx hE => ?_⟩
  · obtain ⟨Γ2, hput, hq⟩ := hq
    have Af : Aft C Γ1 O σ H1 (mAddrs ms vs) O' H' := ⟨post.sub, post.new, post.al, post.fr⟩
    obtain ⟨R2, e2⟩ := rel_after R1 hc nd hmu hput Af (now_of hms)
    have mO : ∀ i a, MutAt Γ2 σ i a → a ∈ O := fun i a m => R1.mutIn (mutAt_put hput nd hmu m)
    have uO : ∀ q ∈ C.U, q.1 ∈ O := fun q hq => (R1.uu q hq).2.1
    obtain ⟨R3, e3⟩ := R2.shrink (O := O) post.sub mO uO R1.oo
    have eA : Same (hide O H1) (hide O H') := L2.Same.trans e2 e3
    cases b with
    | true =>
      obtain ⟨p, o, rfl, hpO', hp0, hp, ho⟩ := hres
      have hpO : p ∉ O := R1.notin hp0
      obtain ⟨R4, e4⟩ := R2.shrink (O := p :: O) (fun a ha => (List.mem_cons.mp ha).elim (fun z => z ▸ hpO') (post.sub a)) (fun i a m => List.mem_cons_of_mem _ (mO i a m)) (fun q hq => List.mem_cons_of_mem _ (uO q hq)) fun a ha => List.mem_cons_of_mem _ (R1.oo a ha)
      exact k (.fr d) Γ2 _ H' ⟨R3, p, o, rfl, hp, hpO, R1.fresh0 hp0, ho.mono e4, R4⟩ (.fr (L2.Same.trans e2 e4)) hq
    | false => exact k (.val d) Γ2 v H' ⟨R3, Rep.mono e3 hres⟩ (.val eA) hq
  · refine kx n c d H' O' fds ds' (fun Γ2 hput => ?_) hn hx hE
    have Af : Aft C Γ1 O σ H1 (mAddrs ms vs) O' H' := ⟨post.sub, post.new, post.al, post.fr⟩
    exact rel_after R1 hc nd hmu hput Af (now_of hms)
theorem sim_call {t : TA} {ma : DTA} {ms : List Md} {sd : DSp} {E : XK} (ha : SimA C t ma) : SimE C (tCall (spD C.K ms sd) [] E t) (mCall ms sd ma) := fun Γ O σ H Qd Q R h k => by
  refine ha Γ O σ H _ _ R h fun rs Γ1 vs H1 R1 p1 e1 q1 => ?_
  obtain ⟨ds, hd, hap, hsd⟩ := q1
  show spD C.K ms sd (vs ++ []) H1 Q E
  rw [List.append_nil]
  exact call_core R1 p1 hd hap hsd (fun r Γ' v H' r1 se q => k r Γ' v H' r1 (.after e1 se) q) fun _ _ _ _ _ _ _ _ _ _ z => z.elim
end
/-- f(..), f a def that lets no exception out for these arguments -/
theorem de_call {X : Cx} {C : Ctx} {k : Nat} {f : Addr} {fd : FuncData} {ps : List Str} {ms : List Md} {sd : DSp} {x : Str} {p pos : Pos} {e : Expr} {es : List Expr} {t : TA} {ma : DTA} (F : FnG X.prog X.w X.K X.mg X.base k f fd ps (spD X.K ms sd)) (hg : X.A.guards = some []) (hr : Room k X.A) (hgl : Gl X x) (hm : X.mg x = some (.ref f)) (hk : PySem.W.keepIn X.K (.ref f) = true) (hb : Binds X.K fd ps [])
    (ha : DA X C (e :: es) t ma) {K0 : Fg} (hK0 : X.K = K0 := by rfl) (hK : K0 = C.K := by rfl) (hdb : (x == ("__debug__" : Str)) = false := by decide) (he : starEach (e :: es) X.env = (false, eval e X.env) :: starEach es X.env := by rfl) (hpl : (backTo pos (starEach es X.env)).any (·.1) = false := by rfl) :
    DE X C (.Call (.Name x p) (e :: es) [] pos) (tCall (spD K0 ms sd) [] E0 t) (mCall ms sd ma) := by
  subst hK0
  exact (⟨pe_g F hg hr hgl hm hk hb .nil passL ha.pa hdb he hpl, by rw [hK]; exact sim_call ha.sim⟩)
/-! ### the end of a law -/
/-- the script as data -/
theorem only_rep {K : Fg} {H : Hp} {a : Addr} {ns : List Int} (h : SqL K H a (ns.map V.int)) : Rep K H (.ref a) (.scr (ns.map D.int)) := .scr h (Reps.of_ints ns)
theorem law_go {P : Program} {w : World} {K : Fg} {mg mb : Str → Option Value} {k : Nat} {fa a : Addr} {fd : FuncData} {x : Str} {sp : Sp} {s₁ : Shared} {vs : List Value} {ns : List Int}
    (KX : K.In s₁.heap) (hns : s₁.heap.Ns mainGlobals mg) (hb : s₁.heap.Ns builtinsNs mb) (hbb : ∀ x : Str, x ≠ "__name__" → mb x = bootBuiltins x) (hlim : s₁.heap.NoLimit) (hg : s₁.gens = #[])
    (ha : s₁.heap.get? a = some { cls := .type "list", data := .seq vs.toArray }) (hi : IntsAre vs ns) (hl : ns.length ≤ sizeLine) (hr : Room k callerA)
    (F : ∀ base : Heap, K.In base → base.Ns mainGlobals mg → FnG P w K mg base k fa fd [x] sp) (hbind : ∀ (s : Shared) (u : Value), BindsTo s fd ⟨[u], []⟩ [(x, u)])
    (hsp : ∀ H : Hp, Only H → SqL K H a (ns.map V.int) → sp [.ref a] H (fun v _ => v = .bl true) E0) :
    codeAny (model P w) callerA (.call (.ref fa) ⟨[.ref a], []⟩) (fun r s' => r = .ok (.ret (.bool true)) ∧ OldK s₁.heap s'.heap ∧ s'.os = s₁.os ∧ AllBare s'.gens) s₁ := by
  -- the layer's own end asks a def that keeps its promise everywhere; here one fixed surrounding is enough
  have one : ∀ base : Heap, K.In base → base.Ns mainGlobals mg → FnOk P w K mg base (fun o H s E u s' => False) 0 fa fd [x] (fun _ _ _ _ => False) := fun base _ _ => ⟨fun _ _ _ _ h => h.elim, fun _ _ _ _ _ _ _ _ _ _ _ _ _ h => h.elim⟩
  have rv := vals_ints hi
  have core : ∀ H : Hp, Only H → SqL K H a (ns.map V.int) → HOk P w H s₁.heap → (∀ b, H b ≠ none → b = a) → (H a ≠ none → K.lookup a = none) →
      codeAny (model P w) callerA (.call (.ref fa) ⟨[.ref a], []⟩) (fun r s' => r = .ok (.ret (.bool true)) ∧ OldK s₁.heap s'.heap ∧ s'.os = s₁.os ∧ AllBare s'.gens) s₁ := by
    intro H hO hS hok hA hK
    have none_or : ∀ b, H b = none ∨ b = a := fun b => by
      cases q : H b with
      | none => exact .inl rfl
      | some u => exact .inr (hA b (by rw [q]; simp))
    have free : ∀ {b : Addr} {o : Obj}, s₁.heap.get? b = some o → (∀ es ep, o.data = .dict es ep → True) → (b ≠ a) → H b = none := fun {b o} _ _ n => (none_or b).resolve_right n
    have isD : ∀ {b : Addr} {o : Obj} {es : Array DictEntry} {ep : Nat}, s₁.heap.get? b = some o → o.data = .dict es ep → b ≠ a := fun {b o es ep} e d z => by
      rw [z, ha] at e
      cases e
      cases d
    have nsK : ∀ {b : Addr} {m : Str → Option Value}, s₁.heap.Ns b m → (hidT s₁.heap H).Ns b m := fun {b m} h => by
      obtain ⟨o, es, ep, e, d, r⟩ := h
      exact ⟨o, es, ep, hidT_get e ((none_or b).resolve_right (isD e d)), d, r⟩
    have hKb : K.In (hidT s₁.heap H) := fun b o e => hidT_get (KX b o e) (by
      rcases none_or b with z | z
      · exact z
      · subst z
        cases q : H b with
        | none => rfl
        | some u => rw [hK (by rw [q]; simp)] at e; cases e)
    have hM : Mod K mg (hidT s₁.heap H) := ⟨hKb, nsK hns, ⟨mb, nsK hb, hbb⟩, hlim.elim fun mc h => ⟨mc, nsK h.1, h.2⟩⟩
    have e0 : Env0 P w K mg (hidT s₁.heap H) callerA [] s₁ H := ⟨rfl, hM, fun b o e => of_hidT e, Nat.le_of_eq (hidT_size _ _), trivial, fun b hb => absurd hb (by simp [frs]), hok, .of_eq hg⟩
    refine codeAny_mono ((F _ hKb (nsK hns)).go callerA rfl hr [] s₁ H ⟨[.ref a], []⟩ [.ref a] [.ref a] _ _ e0 (hbind s₁ (.ref a)) (.cons rfl .nil) (hsp H hO hS)) ?_
    intro r s' h
    match r, h with
    | .error e, h =>
      obtain ⟨_, _, _, _, _, _, _, _, _, _, _, _, z⟩ := (show L2.CX P w [] H s₁ E0 e s' from h)
      exact z.elim
    | .ok .next, h => exact False.elim h
    | .ok .brk, h => exact False.elim h
    | .ok .cont, h => exact False.elim h
    | .ok (.ret u), h =>
      obtain ⟨v, H', os, bare, un, hok', r', q⟩ := h
      have q' : v = .bl true := q
      subst q'
      obtain rfl : u = Value.bool true := r'
      refine ⟨rfl, OldK.of_keep fun b o e => ?_, os, bare⟩
      rcases hO b with z | ⟨ob, xs, z⟩
      · exact un.keep b o e z (by simp [frs]) (by simp)
      · obtain ⟨e1, _⟩ := hok b _ z
        obtain ⟨e2, _⟩ := hok' b _ (un.frzs b ob _ z)
        rw [e] at e1
        cases e1
        exact e2
  cases hk : K.lookup a with
  | some o =>
    have e := KX a o hk
    rw [ha] at e
    cases e
    exact core (fun _ => none) (fun _ => .inl rfl) (.inr ⟨_, vs.toArray, _, hk, rfl, rfl, rfl, by rw [List.size_toArray, hi.length]; exact hl, by simpa using rv⟩) (fun b u z => by cases z) (fun b z => absurd rfl z) fun z => absurd rfl z
  | none =>
    refine core (fun b => if b = a then some (.frz { cls := .type "list", data := .seq vs.toArray } (.lst (ns.map V.int))) else none) (fun b => ?_) (.inl (.inr ⟨_, if_pos rfl⟩)) (fun b u z => ?_) (fun b z => ?_) fun _ => hk
    · by_cases hb : b = a
      · exact .inr ⟨_, _, if_pos hb⟩
      · exact .inl (if_neg hb)
    · by_cases hb : b = a
      · cases (if_pos hb).symm.trans z
        subst hb
        exact ⟨ha, by rw [List.length_map]; exact hl, vs, _, rv, ha⟩
      · cases (if_neg hb).symm.trans z
    · by_cases hb : b = a
      · exact hb
      · exact absurd (if_neg hb) z
/-- what the law's own def promises -/
def lawSp (sd : DSp) : Prop := ∀ ns : List Int, ns.length ≤ 63 → sd [.scr (ns.map D.int)] (fun _ d _ => d = .bl true) noX
theorem walk_g {l : PySem.W.OpenLaw} {n k : Nat} {q : Program} {loose : List Str} {XP : (Str → Option Value) → Heap → Prop} {YP : World → Heap → Prop} {d : DefRec} {K : Params → Fg} {sd : DSp} {x : Str}
    (hn : l.most = some n) (hn2 : n ≤ sizeLine) (hdf : d.params.defaults = []) (hr : Room k callerA)
    (hY : ∀ (w : World) (h : Heap), YP w h → (K w.params).In h)
    (F : ∀ (w : World) (mg : Str → Option Value) (fa : Addr) (h : Heap), (K w.params).In h → h.Ns mainGlobals mg → mg d.name = some (.ref fa) →
      ∃ fd : FuncData, (∀ (s : Shared) (u : Value), BindsTo s fd ⟨[u], []⟩ [(x, u)]) ∧
        ∀ base : Heap, (K w.params).In base → base.Ns mainGlobals mg → FnG l.prog w (K w.params) mg base k fa fd [x] (spD (K w.params) [.S] sd))
    (hsd : ∀ ns : List Int, ns.length ≤ n → sd [.scr (ns.map D.int)] (fun _ d _ => d = .bl true) noX) :
    PySem.W.WalkO q loose XP YP l.row.toRowW d [] (fun f vs => PySem.call f vs) := by
  refine Att.attach_call hn hdf fun w s₀ s₁ mg mb fa o pm cd doc a vs ns G Y ho hd hcd hmg hobj hints hlen hg => ?_
  have KX := hY w _ Y
  obtain ⟨fd, hb, hF⟩ := F w mg fa _ KX G.T.g hmg
  refine law_go KX G.T.g G.T.b G.T.builtins G.T.nolimit hg hobj hints (Nat.le_trans hlen hn2) hr hF hb fun H hO hS => ?_
  refine ⟨[], [.scr (ns.map D.int)], _, noX, .S ?_ .nil, fun a h => absurd h (by simp), ?_, hsd ns hlen, fun v H' O' b d ds' _ _ hres hq => ?_, fun _ _ _ _ _ _ _ _ _ _ _ z => z.elim⟩
  · have e : hide [] H = H := by
      funext b
      exact hide_out (by simp)
    rw [e]
    exact only_rep hS
  · show (mA .S (.ref a) ++ mAddrs [] []).Nodup
    exact List.nodup_nil
  · have hq : d = .bl true := hq
    subst hq
    cases b with
    | true =>
      obtain ⟨_, _, _, _, _, _, h⟩ := hres
      cases h
    | false =>
      have h : Rep _ _ v (.bl true) := hres
      cases h
      rfl
end DL
/-! the data layer, part 11: methods of lists, assignments of several values -/
namespace DL
open PySem PySem.Spec PyProof.Rows L2
/-! ### methods of an own list -/
/-- the content of a place that may be changed -/
def mcont : Option Sl → Option D
  | some (.ow d) => some d
  | some (.io d) => some d
  | _ => none
/-- o.m(..) that changes the place: f of the content and the arguments: the new content, the answer -/
def mMut (f : D → List D → (D → Res → Prop) → Prop) (mo : DTE) (ma : DTA) : DTE := fun Γ Q => mo Γ fun ro Γ1 => ∃ i, ro = .pl i ∧ (∃ ds, cont Γ1[i]? = some (.lst ds)) ∧ ma Γ1 fun rs Γ2 => ∃ c ds, mcont Γ2[i]? = some c ∧ dats rs = some ds ∧ f c ds fun c' z => ∃ Γ3, setC Γ2 i c' = some Γ3 ∧ Q z Γ3
def appendD : D → List D → (D → Res → Prop) → Prop
  | .lst xs, [y], Q => xs.length < 100000 ∧ Q (.lst (xs ++ [y])) (.val .non)
  | _, _, _ => False
def insertD : D → List D → (D → Res → Prop) → Prop
  | .lst xs, [.int i, y], Q => (xs.length < 100000 ∧ 0 ≤ i ∧ i < 2 ^ 63) ∧ Q (.lst (xs.take i.toNat ++ [y] ++ xs.drop i.toNat)) (.val .non)
  | _, _, _ => False
def popD : D → List D → (D → Res → Prop) → Prop
  | .lst xs, [], Q => ∃ y, xs[xs.length - 1]? = some y ∧ Q (.lst xs.dropLast) (.val y)
  | .lst xs, [.int i], Q => (-(2 ^ 63) ≤ i ∧ i < 2 ^ 63) ∧ ∃ k y, seqIndex? i xs.length = some k ∧ xs[k]? = some y ∧ Q (.lst (xs.eraseIdx k)) (.val y)
  | _, _, _ => False
def reverseD : D → List D → (D → Res → Prop) → Prop
  | .lst xs, [], Q => Q (.lst xs.reverse) (.val .non)
  | _, _, _ => False
def clearD : D → List D → (D → Res → Prop) → Prop
  | .lst xs, [], Q => Q (.lst []) (.val .non)
  | _, _, _ => False
/-- a change by values -/
def SimMt (K : Fg) (r : V → List V → Hp → VK → Prop) (f : D → List D → (D → Res → Prop) → Prop) : Prop := ∀ (O : List Addr) (H : Hp) (l : Addr) (o : HO) (c : D) (vs : List V) (ds : List D) (Qd : D → Res → Prop) (Q : VK), H l = some o → OwnOk K (hide O H) o c → Reps K (hide O H) vs ds → f c ds Qd →
  (∀ o' c' v d, OwnOk K (hide O H) o' c' → Rep K (hide O H) v d → Qd c' (.val d) → Q v (upd H l o')) → r (.ref l) vs H Q
section
variable {K : Fg} {C : Ctx} {X : Cx}
theorem Reps.one {H : Hp} {vs : List V} {d : D} (h : Reps K H vs [d]) : ∃ v, vs = [v] ∧ Rep K H v d := by
  cases h with | cons h t => cases t; exact ⟨_, rfl, h⟩
theorem Reps.two {H : Hp} {vs : List V} {d e : D} (h : Reps K H vs [d, e]) : ∃ v w, vs = [v, w] ∧ Rep K H v d ∧ Rep K H w e := by
  cases h with | cons h t => cases t with | cons h' t => cases t; exact ⟨_, _, rfl, h, h'⟩
theorem smt_append : SimMt K rAppend appendD := fun O H l o c vs ds Qd Q hl ho hr q k => by
  unfold appendD at q
  split at q
  · cases ho with
    | lst rr =>
      obtain ⟨v, rfl, rv⟩ := hr.one
      exact ⟨l, _, v, rfl, rfl, hl, by rw [rr.length]; exact Nat.lt_of_lt_of_le q.1 (by decide), k _ _ _ _ (.lst (rr.append (.cons rv .nil))) .non q.2⟩
  · exact q.elim
def uInsert : V → List V → Hp → VK → Prop := fun x vs H Q => ∃ (l : Addr) (xs : List V) (i : Int) (y : V), x = .ref l ∧ vs = [.int i, y] ∧ H l = some (.lst xs) ∧ xs.length < sizeLine ∧ 0 ≤ i ∧ i < 2 ^ 63 ∧ Q .non (upd H l (.lst (xs.take i.toNat ++ [y] ++ xs.drop i.toNat)))
theorem smt_insert : SimMt K uInsert insertD := fun O H l o c vs ds Qd Q hl ho hr q k => by
  unfold insertD at q
  split at q
  · cases ho with
    | lst rr =>
      obtain ⟨v, w, rfl, rv, rw'⟩ := hr.two
      cases rv
      exact ⟨l, _, _, w, rfl, rfl, hl, by rw [rr.length]; exact Nat.lt_of_lt_of_le q.1.1 (by decide), q.1.2.1, q.1.2.2, k _ _ _ _ (.lst (((rr.take _).append (.cons rw' .nil)).append (rr.drop _))) .non q.2⟩
  · exact q.elim
theorem mcont_of {Γ : Env} {i : Nat} {c : D} (h : mcont Γ[i]? = some c) : Γ[i]? = some (.ow c) ∨ Γ[i]? = some (.io c) := by
  unfold mcont at h
  split at h
  · rename_i d e; cases h; exact .inl e
  · rename_i d e; cases h; exact .inr e
  · cases h
theorem sim_mut {to : TE} {t : TA} {mo : DTE} {ma : DTA} {r : V → List V → Hp → VK → Prop} {f : D → List D → (D → Res → Prop) → Prop} (ho : SimE C to mo) (ha : SimA C t ma) (hr : SimMt C.K r f) : SimE C (tBM C.K "list" r to t) (mMut f mo ma) := fun Γ O σ H Qd Q R h k => by
  refine ho Γ O σ H _ _ R h fun ro Γ1 x H1 R1 e1 q1 => ?_
  obtain ⟨i, rfl, ⟨ds0, hc0⟩, q1⟩ := q1
  obtain ⟨a, vs0, rfl, hl0, _⟩ := (Pend.b2 (r := .pl i) R1.rel R1.2 hc0).lst
  refine ⟨.inl ⟨rfl, _, SqL.of hl0⟩, ?_⟩
  refine ha Γ1 O σ H1 _ _ R1.rel q1 fun rs Γ2 vs H2 R2 p2 e2 q2 => ?_
  obtain ⟨c, ds, hc, hd, q⟩ := q2
  have hs : σ[i]? = some (some (.ref a)) := R1.2
  have hm := mcont_of hc
  have pl : ∃ o, H2 a = some o ∧ OwnOk C.K (hide O H2) o c := by
    rcases hm with g | g
    · obtain ⟨l, o, h1, _, _, h4, h5⟩ := R2.sl i _ g
      rw [hs] at h1; cases h1; exact ⟨o, h4, h5⟩
    · obtain ⟨l, o, h1, _, _, h4, h5⟩ := R2.sl i _ g
      rw [hs] at h1; cases h1; exact ⟨o, h4, h5⟩
  obtain ⟨o, hl, hb⟩ := pl
  refine hr O H2 a o c vs ds _ Q hl hb (dats_ok p2 hd) q fun o' c' v d ho' hv hq => ?_
  obtain ⟨Γ3, hset, hq⟩ := hq
  obtain ⟨R3, e3⟩ := set_relO R2 hset hs ho'
  exact k (.val d) Γ3 v _ ⟨R3, hv.mono e3⟩ (.val (L2.Same.trans e1.1 (L2.Same.trans e2 e3))) hq
variable {o e : Expr} {es : List Expr} {to : TE} {t : TA} {mo : DTE} {ma : DTA} {apos cpos : Pos}
theorem de_append (h : PE X o to → PA X [e] t → PE X (.Call (.Attribute o "append" apos) [e] [] cpos) (tBM X.K "list" rAppend to t)) (ho : DE X C o to mo) (ha : DA X C [e] t ma) {K0 : Fg} (hK0 : X.K = K0 := by rfl) (hK : K0 = C.K := by rfl) : DE X C (.Call (.Attribute o "append" apos) [e] [] cpos) (tBM K0 "list" rAppend to t) (mMut appendD mo ma) := by
  subst hK0
  exact (⟨h ho.pe ha.pa, by rw [hK]; exact sim_mut ho.sim ha.sim smt_append⟩)
theorem de_insert {e2 : Expr} (h : PE X o to → PA X [e, e2] t → PE X (.Call (.Attribute o "insert" apos) [e, e2] [] cpos) (tBM X.K "list" uInsert to t)) (ho : DE X C o to mo) (ha : DA X C [e, e2] t ma) {K0 : Fg} (hK0 : X.K = K0 := by rfl) (hK : K0 = C.K := by rfl) : DE X C (.Call (.Attribute o "insert" apos) [e, e2] [] cpos) (tBM K0 "list" uInsert to t) (mMut insertD mo ma) := by
  subst hK0
  exact (⟨h ho.pe ha.pa, by rw [hK]; exact sim_mut ho.sim ha.sim smt_insert⟩)
end
/-! ### several values at once -/
inductive PR (K : Fg) (O : List Addr) (H : Hp) : List (Addr × HO) → List V → List Res → Prop
  | nil : PR K O H [] [] []
  | val {us : List (Addr × HO)} {v : V} {d : D} {vs : List V} {rs : List Res} : Rep K (hide O H) v d → PR K O H us vs rs → PR K O H us (v :: vs) (.val d :: rs)
  | fr {us : List (Addr × HO)} {p : Addr} {o : HO} {d : D} {vs : List V} {rs : List Res} : OwnOk K (hide O H) o d → PR K O H us vs rs → PR K O H ((p, o) :: us) (.ref p :: vs) (.fr d :: rs)
theorem PR.mono {K : Fg} {O O' : List Addr} {H H' : Hp} (e : Same (hide O H) (hide O' H')) : ∀ {us : List (Addr × HO)} {vs : List V} {rs : List Res}, PR K O H us vs rs → PR K O' H' us vs rs
  | _, _, _, .nil => .nil
  | _, _, _, .val h t => .val (h.mono e) (PR.mono e t)
  | _, _, _, .fr h t => .fr (h.mono e) (PR.mono e t)
/-- values that wait, with the new objects among them owned -/
structure RelP (C : Ctx) (Γ : Env) (O : List Addr) (σ : L2.St) (H : Hp) (us : List (Addr × HO)) (vs : List V) (rs : List Res) : Prop where
  rel : RelO { C with U := us ++ C.U } Γ O σ H
  pr : PR C.K O H us vs rs
  nd : (us.map (·.1)).Nodup
  h0 : ∀ q ∈ us, C.H0 q.1 = none
  ap : ∀ q ∈ us, ∀ q' ∈ C.U, q'.1 ≠ q.1
abbrev DTP := Env → (List Res → Env → Prop) → Prop
def SimP (C : Ctx) (t : TA) (m : DTP) : Prop := ∀ (Γ : Env) (O : List Addr) (σ : L2.St) (H : Hp) (Qd : List Res → Env → Prop) (Q : List V → Hp → Prop), RelO C Γ O σ H → m Γ Qd →
  (∀ rs Γ' vs H' O' us, RelP C Γ' O' σ H' us vs rs → Same (hide O H) (hide O' H') → (∀ a ∈ O, a ∈ O') → Qd rs Γ' → Q vs H') → t σ H Q
def isPl : Res → Bool
  | .pl _ => true
  | _ => false
def mPNil : DTP := fun Γ Q => Q [] Γ
def mPCons (ma : DTE) (mr : DTP) : DTP := fun Γ Q => ma Γ fun r Γ1 => isPl r = false ∧ mr Γ1 fun rs Γ2 => Q (r :: rs) Γ2
section
variable {C : Ctx}
theorem sim_pnil : SimP C tNil mPNil := fun Γ O σ H Qd Q R h k => k [] Γ [] H O [] ⟨R.congrU R.uu, .nil, List.nodup_nil, fun _ h => absurd h (by simp), fun _ h => absurd h (by simp)⟩ (L2.Same.refl _) (fun _ h => h) h
theorem sim_pcons {ta : TE} {tr : TA} {ma : DTE} {mr : DTP} (ha : SimE C ta ma) (hr : ∀ U, SimP { C with U := U } tr mr) : SimP C (tCons ta tr) (mPCons ma mr) := fun Γ O σ H Qd Q R h k => by
  refine ha Γ O σ H _ _ R h fun r Γ1 v H1 R1 e1 q1 => ?_
  obtain ⟨hp, q1⟩ := q1
  cases r with
  | pl i => cases hp
  | val d =>
    refine hr C.U Γ1 O σ H1 _ _ R1.1 q1 fun rs Γ2 vs H2 O2 us P2 e2 s2 q2 => ?_
    exact k _ Γ2 _ H2 O2 us ⟨P2.rel, .val (R1.2.mono e2) P2.pr, P2.nd, P2.h0, P2.ap⟩ (L2.Same.trans e1.1 e2) s2 q2
  | fr d =>
    obtain ⟨R0, p, o, rfl, hpp, hpO, h0, ho, R2⟩ := R1
    have hm : ∀ i, ¬ MutAt Γ1 σ i p := fun i m => hpO (R0.mutIn m)
    have hU : ∀ q ∈ C.U, q.1 ≠ p := fun q hq z => hpO (z ▸ (R0.uu q hq).2.1)
    have RU : RelO { C with U := (p, o) :: C.U } Γ1 (p :: O) σ H1 := R2.congrU fun q hq => by
      rcases List.mem_cons.mp hq with z | z
      · subst z; exact ⟨hpp, List.mem_cons_self, hm⟩
      · exact R2.uu q z
    have es : Same (hide O H) (hide (p :: O) H1) := e1.2 d p rfl rfl
    refine hr ((p, o) :: C.U) Γ1 (p :: O) σ H1 _ _ RU q1 fun rs Γ2 vs H2 O2 us P2 e2 s2 q2 => ?_
    have apP : ∀ q ∈ us, q.1 ≠ p := fun q hq z => P2.ap q hq (p, o) List.mem_cons_self z.symm
    refine k _ Γ2 _ H2 O2 ((p, o) :: us) ⟨P2.rel.subU (U' := (p, o) :: us ++ C.U) (C := C) fun q hq => ?_, .fr (ho.mono e2) P2.pr, List.nodup_cons.mpr ⟨fun z => ?_, P2.nd⟩, fun q hq => ?_, fun q hq q' hq' => ?_⟩ ?_ (fun a ha => s2 a (List.mem_cons_of_mem _ ha)) q2
    · rcases List.mem_append.mp hq with z | z
      · rcases List.mem_cons.mp z with z | z
        · subst z; exact List.mem_append_right _ List.mem_cons_self
        · exact List.mem_append_left _ z
      · exact List.mem_append_right _ (List.mem_cons_of_mem _ z)
    · obtain ⟨q, hq, e⟩ := List.mem_map.mp z
      exact apP q hq e
    · rcases List.mem_cons.mp hq with z | z
      · subst z; exact h0
      · exact P2.h0 q z
    · rcases List.mem_cons.mp hq with z | z
      · subst z; exact hU q' hq'
      · exact P2.ap q z q' (List.mem_cons_of_mem _ hq')
    · exact L2.Same.trans es e2
end
end DL
/-! the data layer, part 12: a, b = x, y; x[i] op= e -/
namespace DL
open PySem PySem.Spec PyProof.Rows L2
inductive Tg where
  | sh (i : Nat)
  | ow (i : Nat)
  | sub (mo mi : DTE)
  | gen (mg : DTG)
def mTgs : List Tg → List Res → Env → (Env → Prop) → Prop
  | [], [], Γ, Q => Q Γ
  | .sh i :: ts, r :: rs, Γ, Q => ∃ d, dat r = some d ∧ freeB Γ i = true ∧ mTgs ts rs (Γ.set i (.sh d)) Q
  | .ow i :: ts, r :: rs, Γ, Q => ∃ d, r = .fr d ∧ freeB Γ i = true ∧ mTgs ts rs (Γ.set i (.ow d)) Q
  | .sub mo mi :: ts, r :: rs, Γ, Q => ∃ d, dat r = some d ∧ mgSub mo mi stD d Γ fun Γ1 => mTgs ts rs Γ1 Q
  | .gen mg :: ts, r :: rs, Γ, Q => ∃ d, dat r = some d ∧ mg d Γ fun Γ1 => mTgs ts rs Γ1 Q
  | _, _, _, _ => False
def SimTs (C : Ctx) (g : TGs) (ts : List Tg) : Prop := ∀ (Γ : Env) (O : List Addr) (σ : L2.St) (H : Hp) (us : List (Addr × HO)) (vs : List V) (rs : List Res) (Qd : Env → Prop) (Q : L2.St → Hp → Prop), RelP C Γ O σ H us vs rs → mTgs ts rs Γ Qd →
  (∀ Γ' O' σ' H', RelO C Γ' O' σ' H' → Qd Γ' → Q σ' H') → g vs σ H Q
section
variable {C : Ctx} {Γ : Env} {O : List Addr} {σ : L2.St} {H : Hp} {us : List (Addr × HO)} {v : V} {vs : List V} {r : Res} {rs : List Res} {d : D} {i : Nat}
/-- the first of the waiting values is taken as shared -/
theorem RelP.take (P : RelP C Γ O σ H us (v :: vs) (r :: rs)) (hd : dat r = some d) : ∃ O' us', RelP C Γ O' σ H us' vs rs ∧ Rep C.K (hide O' H) v d := by
  cases P with
  | mk R pr nd h0 ap =>
    cases pr with
    | val h t => cases hd; exact ⟨O, us, ⟨R, t, nd, h0, ap⟩, h⟩
    | fr h t =>
      rename_i us' p o d'
      cases hd
      obtain ⟨n1, n2⟩ := List.nodup_cons.mp nd
      have apU : ∀ q ∈ us', q.1 ≠ p := fun q hq z => n1 (by rw [← z]; exact List.mem_map.mpr ⟨q, hq, rfl⟩)
      obtain ⟨hp, hpO, hm⟩ := R.uu (p, o) List.mem_cons_self
      have R' : RelO { C with U := us' ++ C.U } Γ O σ H := R.subU (U' := us' ++ C.U) (C := C) fun q hq => List.mem_cons_of_mem _ hq
      obtain ⟨R2, e⟩ := R'.letgo (p := p) (O' := O.filter fun a => decide (a ≠ p)) (h0 (p, o) List.mem_cons_self) hm (fun q hq => by
        rcases List.mem_append.mp hq with z | z
        · exact apU q z
        · exact ap (p, o) List.mem_cons_self q z) fun a => by simp [List.mem_filter]
      refine ⟨_, us', ⟨R2, t.mono e, n2, fun q hq => h0 q (List.mem_cons_of_mem _ hq), fun q hq => ap q (List.mem_cons_of_mem _ hq)⟩, (h.mono e).rep ?_⟩
      rw [hide_out (by simp [List.mem_filter])]
      exact hp
theorem sim_tnil : SimTs C gNil [] := fun Γ O σ H us vs rs Qd Q P h k => by
  cases P with
  | mk R pr nd h0 ap =>
    cases pr with
    | nil => exact ⟨rfl, k Γ O σ H (R.backU (C := C) fun q hq => List.mem_append_right _ hq) h⟩
    | val _ _ => exact h.elim
    | fr _ _ => exact h.elim
theorem sim_tsh {gs : TGs} {ts : List Tg} (hs : SimTs C gs ts) (i : Nat) : SimTs C (gCons (gName i) gs) (.sh i :: ts) := fun Γ O σ H us vs rs Qd Q P h k => by
  cases rs with
  | nil => exact h.elim
  | cons r rs =>
    obtain ⟨d, hd, hf, h⟩ := h
    cases vs with
    | nil => cases P.pr
    | cons v vs =>
      obtain ⟨O', us', P', hr⟩ := P.take hd
      exact ⟨v, vs, rfl, hs _ O' _ H us' vs rs _ _ ⟨P'.rel.setSh (freeB_of hf) hr, P'.pr, P'.nd, P'.h0, P'.ap⟩ h k⟩
theorem sim_tow {gs : TGs} {ts : List Tg} (hs : SimTs C gs ts) (i : Nat) : SimTs C (gCons (gName i) gs) (.ow i :: ts) := fun Γ O σ H us vs rs Qd Q P h k => by
  cases rs with
  | nil => exact h.elim
  | cons r rs =>
    obtain ⟨d, rfl, hf, h⟩ := h
    cases P with
    | mk R pr nd h0 ap =>
      cases pr with
      | fr ho t =>
        rename_i us' p o vs
        obtain ⟨n1, n2⟩ := List.nodup_cons.mp nd
        obtain ⟨hp, hpO, hm⟩ := R.uu (p, o) List.mem_cons_self
        have R' : RelO { C with U := us' ++ C.U } Γ O σ H := R.subU (U' := us' ++ C.U) (C := C) fun q hq => List.mem_cons_of_mem _ hq
        have hU : ∀ q ∈ us' ++ C.U, q.1 ≠ p := fun q hq => by
          rcases List.mem_append.mp hq with z | z
          · exact fun e => n1 (by rw [← e]; exact List.mem_map.mpr ⟨q, z, rfl⟩)
          · exact ap (p, o) List.mem_cons_self q z
        have R2 : RelO { C with U := us' ++ C.U } (Γ.set i (.ow d)) O (σ.set i (some (.ref p))) H := R'.set (freeB_of hf) (fun hl => ⟨p, o, List.getElem?_set_self hl, hpO, h0 (p, o) List.mem_cons_self, hp, ho⟩) (fun j a n m1 m2 => by
          have e := get_set_same m2.2
          have e2 := V.ref.inj (Option.some.inj e)
          exact hm j (by rw [e2]; exact m1)) fun q hq m => by
            have e := get_set_same m.2
            exact hU q hq (V.ref.inj (Option.some.inj e)).symm
        exact ⟨.ref p, vs, rfl, hs _ O _ H us' vs rs _ _ ⟨R2, t, n2, fun q hq => h0 q (List.mem_cons_of_mem _ hq), fun q hq => ap q (List.mem_cons_of_mem _ hq)⟩ h k⟩
theorem sim_tsub {gs : TGs} {ts : List Tg} {to ti : TE} {mo mi : DTE} (ho : ∀ U, SimE { C with U := U } to mo) (hi : ∀ U, SimE { C with U := U } ti mi) (hs : SimTs C gs ts) : SimTs C (gCons (gSub to ti rSetL) gs) (.sub mo mi :: ts) := fun Γ O σ H us vs rs Qd Q P h k => by
  cases rs with
  | nil => exact h.elim
  | cons r rs =>
    obtain ⟨d, hd, h⟩ := h
    cases vs with
    | nil => cases P.pr
    | cons v vs =>
      obtain ⟨O', us', P', hr⟩ := P.take hd
      refine ⟨v, vs, rfl, sim_gSub (ho (us' ++ C.U)) (hi (us' ++ C.U)) Γ O' σ H v d _ _ P'.rel hr h fun Γ1 σ1 H1 R1 e1 q1 => ?_⟩
      exact hs Γ1 O' σ1 H1 us' vs rs _ _ ⟨R1, P'.pr.mono e1, P'.nd, P'.h0, P'.ap⟩ q1 k
def mPar (mp : DTP) (ts : List Tg) : DTS := fun D Γ => mp Γ fun rs Γ1 => mTgs ts rs Γ1 D.nx
theorem sim_par2 {ta : TA} {mp : DTP} {i j : Nat} {t1 t2 : Tg} (hp : SimP C ta mp) (hs : SimTs C (gCons (gName i) (gCons (gName j) gNil)) [t1, t2]) : SimS C (tPar i j ta) (mPar mp [t1, t2]) := fun Γ O σ H D Dd R h L =>
  hp Γ O σ H _ _ R h fun rs Γ1 vs H1 O1 us P e s q => by
    obtain ⟨v, r, rfl, v2, r2, rfl, rfl, q2⟩ := hs Γ1 O1 σ H1 us vs rs _ D.nx P q fun Γ2 O2 σ2 H2 R2 q2 => L.nx Γ2 O2 σ2 H2 R2 q2
    exact ⟨v, v2, rfl, q2⟩
theorem sim_par3 {ta : TA} {mp : DTP} {i j l : Nat} {t1 t2 t3 : Tg} (hp : SimP C ta mp) (hs : SimTs C (gCons (gName i) (gCons (gName j) (gCons (gName l) gNil))) [t1, t2, t3]) : SimS C (tPar3 i j l ta) (mPar mp [t1, t2, t3]) := fun Γ O σ H D Dd R h L =>
  hp Γ O σ H _ _ R h fun rs Γ1 vs H1 O1 us P e s q => by
    obtain ⟨v, r, rfl, v2, r2, rfl, v3, r3, rfl, rfl, q2⟩ := hs Γ1 O1 σ H1 us vs rs _ D.nx P q fun Γ2 O2 σ2 H2 R2 q2 => L.nx Γ2 O2 σ2 H2 R2 q2
    exact ⟨v, v2, v3, rfl, q2⟩
theorem PR.len {K : Fg} : ∀ {us : List (Addr × HO)} {vs : List V} {rs : List Res}, PR K O H us vs rs → vs.length = rs.length
  | _, _, _, .nil => rfl
  | _, _, _, .val _ t => by rw [List.length_cons, List.length_cons, PR.len t]
  | _, _, _, .fr _ t => by rw [List.length_cons, List.length_cons, PR.len t]
/-- a, b, .. = x, y, .. by way of a tuple -/
theorem sim_asgT {ta : TA} {mp : DTP} {gs : TGs} {ts : List Tg} {n : Nat} (hp : SimP C ta mp) (hs : SimTs C gs ts) (hn : n ≤ 100000) : SimS C (tAsg (tTup ta) (gTup C.K n gs)) (fun D Γ => mp Γ fun rs Γ1 => rs.length = n ∧ mTgs ts rs Γ1 D.nx) := fun Γ O σ H D Dd R h L =>
  hp Γ O σ H _ _ R h fun rs Γ1 vs H1 O1 us P e s q => by
    obtain ⟨hl, q⟩ := q
    have lv : vs.length = n := by rw [P.pr.len, hl]
    refine ⟨by rw [lv]; exact sz5 hn, fun p hp1 => ⟨p, vs, rfl, SqT.of upd_same, lv, ?_⟩⟩
    exact hs Γ1 O1 σ _ us vs rs _ _ ⟨P.rel.alloc hp1, P.pr.mono (hide_new hp1), P.nd, P.h0, P.ap⟩ q fun Γ2 O2 σ2 H2 R2 q2 => L.nx Γ2 O2 σ2 H2 R2 q2
end
/-- the values on the right -/
structure DPa (X : Cx) (C : Ctx) (es : List Expr) (t : TA) (m : DTP) : Prop where
  pa : PA X es t
  sim : SimP C t m
structure DTs (X : Cx) (C : Ctx) (es : List Expr) (g : TGs) (ts : List Tg) : Prop where
  pgs : PGs X es g
  sim : SimTs C g ts
def mPar3 (n : Nat) (mp : DTP) (ts : List Tg) : DTS := fun D Γ => mp Γ fun rs Γ1 => rs.length = n ∧ mTgs ts rs Γ1 D.nx
section
variable {X : Cx} {C : Ctx} {st : Stmt} {ta : TA} {mp : DTP} {e : Expr} {es : List Expr} {te : TE} {me : DTE} {pos : Pos}
theorem dp_nil : DPa X C [] tNil mPNil := ⟨pa_nil, sim_pnil⟩
theorem dp_cons {tr : TA} {mr : DTP} (ha : DE X C e te me) (hr : ∀ U, DPa X { C with U := U } es tr mr) (hs : starEach (e :: es) X.env = (false, eval e X.env) :: starEach es X.env := by rfl) : DPa X C (e :: es) (tCons te tr) (mPCons me mr) := ⟨pa_cons ha.pe (hr C.U).pa hs, sim_pcons ha.sim fun U => (hr U).sim⟩
theorem dts_nil : DTs X C [] gNil [] := ⟨pgs_nil, sim_tnil⟩
theorem dts_sub {o i : Expr} {to ti : TE} {mo mi : DTE} {gs : TGs} {ts : List Tg} (h : PE X o to → PE X i ti → PG X (.Subscript o i pos) (gSub to ti rSetL)) (ho : ∀ U, DE X { C with U := U } o to mo) (hi : ∀ U, DE X { C with U := U } i ti mi) (hr : DTs X C es gs ts) (hs : (assignEach (.Subscript o i pos :: es) X.env).map (·.2) = assign (.Subscript o i pos) X.env :: (assignEach es X.env).map (·.2) := by rfl) :
    DTs X C (.Subscript o i pos :: es) (gCons (gSub to ti rSetL) gs) (.sub mo mi :: ts) := ⟨pgs_cons (h (ho C.U).pe (hi C.U).pe) hr.pgs hs, sim_tsub (fun U => (ho U).sim) (fun U => (hi U).sim) hr.sim⟩
/-- a, b = x, y: plain local names -/
theorem ds_par2 {i j : Nat} {t1 t2 : Tg} (h : PA X es ta → PS X st (tPar i j ta)) (hp : DPa X C es ta mp) (hs : SimTs C (gCons (gName i) (gCons (gName j) gNil)) [t1, t2]) : DS X C st (tPar i j ta) (mPar mp [t1, t2]) := ⟨h hp.pa, sim_par2 hp.sim hs⟩
theorem ds_par3 {i j l : Nat} {t1 t2 t3 : Tg} (h : PA X es ta → PS X st (tPar3 i j l ta)) (hp : DPa X C es ta mp) (hs : SimTs C (gCons (gName i) (gCons (gName j) (gCons (gName l) gNil))) [t1, t2, t3]) : DS X C st (tPar3 i j l ta) (mPar mp [t1, t2, t3]) := ⟨h hp.pa, sim_par3 hp.sim hs⟩
theorem ds_asgT {tes : List Expr} {k k2 : Nat} {tp tp2 : Pos} {gs : TGs} {ts : List Tg} {n : Nat} (hp : DPa X C es ta mp) (hg : DTs X C tes gs ts) (hc : X.calm = true) (hn2 : n ≤ 100000) (hn : (assignEach tes X.env).length = n := by rfl) (hst : (assignEach tes X.env).findIdx? (·.1) = none := by rfl)
    (hs : swapsWithSole [.Tuple tes k tp] (.Tuple es k2 tp2) pos.line X.env = pure false := by rfl) (hw : swappedStores [.Tuple tes k tp] (.Tuple es k2 tp2) X.env = pure none := by rfl) (h1 : (assignEach [.Tuple tes k tp] X.env).map (·.2) = [assign (.Tuple tes k tp) X.env] := by rfl) {K0 : Fg} (hK0 : X.K = K0 := by rfl) (hK : K0 = C.K := by rfl) :
    DS X C (.Assign [.Tuple tes k tp] (.Tuple es k2 tp2) pos) (tAsg (tTup ta) (gTup K0 n gs)) (mPar3 n mp ts) := by
  subst hK0
  exact (⟨ps_asg (pe_tup hp.pa) (pg_tup hc hg.pgs hn hst) hs hw h1, by rw [hK]; exact sim_asgT hp.sim hg.sim hn2⟩)
end
/-! ### x[i] op= e -/
theorem get_listG {X : Cx} : PGet X (rIxL X.K) := by
  intro pins s σ H x y v u Q I rx ry h
  obtain ⟨p, xs, i, z, rfl, rfl, hq, he, q⟩ := h
  cases rx
  obtain ⟨t, rfl⟩ := ry
  obtain ⟨its, r, pl, hz⟩ := I.list hq
  obtain ⟨j, h1, h2, h3, h4, h5⟩ := atI_get he
  obtain ⟨w, ew, rw'⟩ := r.get h2
  have hl := r.length
  have hn := line63
  have fin : EP X pins σ Q w s := ⟨z, H, I, rw', q⟩
  rcases Int.lt_or_le i 0 with h0 | h0
  · have hj : (i + (its.toArray.size : Int)).toNat = j := by
      rw [seqIndex_neg (by omega) h4] at h1
      rw [List.size_toArray, ← hl]
      exact Option.some.inj h1
    exact wpAny_getItem_list_neg pl.isList (by omega) (by rw [List.size_toArray] <;> omega) (by omega) (by rw [hj]; simpa using ew) fin
  · have hj : i.toNat = j := by
      rw [seqIndex_of h0 h5] at h1
      exact Option.some.inj h1
    exact wpAny_getItem_list pl.isList h0 (by omega) (by rw [hj]; simpa using ew) fin
def mAugS (mo mi me : DTE) (f : D → D → (Res → Prop) → Prop) : DTS := fun D Γ => mo Γ fun ro Γ1 => mi Γ1 fun ri Γ2 => ∃ i ds k x, ro = .pl i ∧ cont Γ2[i]? = some (.lst ds) ∧ ri = .val (.int k) ∧ atI ds k = some x ∧ me Γ2 fun rv Γ3 => ∃ y, rd Γ3 rv = some y ∧ f x y fun z => ∃ d ds3 j, z = .val d ∧ cont Γ3[i]? = some (.lst ds3) ∧ ixN ds3.length k = some j ∧ ∃ Γ4, setC Γ3 i (.lst (ds3.set j d)) = some Γ4 ∧ D.nx Γ4
section
variable {C : Ctx} {to ti te : TE} {mo mi me : DTE}
theorem sim_augS {g : Int → Int → Int} {f : D → D → (Res → Prop) → Prop} (hf : ∀ a b Q, f a b Q → ∃ i j, a = .int i ∧ b = .int j ∧ Q (.val (.int (g i j)))) (ho : SimE C to mo) (hi : SimE C ti mi) (he : SimE C te me) : SimS C (tAugS to ti te (rIxL C.K) (ipI g) rSetL) (mAugS mo mi me f) := fun Γ O σ H D Dd R h L => by
  refine ho Γ O σ H _ _ R h fun ro Γ1 xo H1 R1 e1 q1 => ?_
  refine hi Γ1 O σ H1 _ _ R1.rel q1 fun ri Γ2 xi H2 R2 e2 q2 => ?_
  obtain ⟨i, ds, k, x, rfl, hc, rfl, hx, q2⟩ := q2
  have hs : σ[i]? = some (some xo) := R1.2
  obtain ⟨a, vs, rfl, hl, hr⟩ := (Pend.b2 (r := .pl i) R2.1 hs hc).lst
  obtain rfl := (show B2 C.K O H2 xi (.int k) from .inl R2.2).int
  obtain ⟨v, hv, rv⟩ := hr.atI hx
  refine ⟨a, vs, k, v, rfl, rfl, SqL.of hl, hv, ?_⟩
  refine he Γ2 O σ H2 _ _ R2.1 q2 fun rr Γ3 y H3 R3 e3 q3 => ?_
  obtain ⟨dy, hy, q3⟩ := q3
  obtain ⟨m, n, rfl, rfl, d, ds3, j, hd, hc3, hj, Γ4, hset, q3⟩ := hf x dy _ q3
  cases hd
  obtain rfl := (show B2 C.K O H2 v (.int m) from .inl rv).int
  obtain rfl := (R3.pend.b2 R3.rel hy).int
  refine ⟨m, n, rfl, rfl, ?_⟩
  obtain ⟨a3, vs3, e, hl3, hr3⟩ := (Pend.b2 (r := .pl i) R3.rel hs hc3).lst
  cases e
  obtain ⟨R4, e4⟩ := set_relO (o := .lst (vs3.set j (.int (g m n)))) R3.rel hset hs (.lst (hr3.set (.int _) j))
  exact ⟨a, vs3, k, j, rfl, rfl, hl3, by rw [hr3.length]; exact hj, L.nx Γ4 O σ _ R4 q3⟩
end
section
variable {X : Cx} {C : Ctx} {o i e : Expr} {st : Stmt} {to ti te : TE} {mo mi me : DTE}
theorem ds_augSA (h : PE X o to → PE X i ti → PE X e te → PS X st (tAugS to ti te (rIxL X.K) (ipI fun i j => i + j) rSetL)) (ho : DE X C o to mo) (hi : DE X C i ti mi) (he : DE X C e te me) {K0 : Fg} (hK0 : X.K = K0 := by rfl) (hK : K0 = C.K := by rfl) : DS X C st (tAugS to ti te (rIxL K0) (ipI fun i j => i + j) rSetL) (mAugS mo mi me addI) := by
  subst hK0
  exact (⟨h ho.pe hi.pe he.pe, by
    rw [hK]
    exact sim_augS (fun a b Q h => by
      unfold addI at h
      split at h
      · exact ⟨_, _, rfl, rfl, h⟩
      · exact h.elim) ho.sim hi.sim he.sim⟩)
theorem ds_augSS (h : PE X o to → PE X i ti → PE X e te → PS X st (tAugS to ti te (rIxL X.K) (ipI fun i j => i - j) rSetL)) (ho : DE X C o to mo) (hi : DE X C i ti mi) (he : DE X C e te me) {K0 : Fg} (hK0 : X.K = K0 := by rfl) (hK : K0 = C.K := by rfl) : DS X C st (tAugS to ti te (rIxL K0) (ipI fun i j => i - j) rSetL) (mAugS mo mi me subI) := by
  subst hK0
  exact (⟨h ho.pe hi.pe he.pe, by
    rw [hK]
    exact sim_augS (fun a b Q h => by
      unfold subI at h
      split at h
      · exact ⟨_, _, rfl, rfl, h⟩
      · exact h.elim) ho.sim hi.sim he.sim⟩)
end
end DL
namespace DL
open PySem L2 PyProof.Rows
/-! ### repr of data with dicts -/
mutual
def plainZ : D → Bool
  | .non => true
  | .bl _ => true
  | .int _ => true
  | .str _ => true
  | .lst ds => plainZs ds
  | .scr ds => plainZs ds
  | .tup ds => plainZs ds
  | .dic kvs => plainZk kvs
  | .dkl kvs => plainZk kvs
  | .dit _ => false
  | .dtl _ => false
  | .pnK _ _ => false
  | .pnT _ _ => false
  | .obj _ _ _ => false
  | .cls _ => false
  | .xcl _ _ => false
def plainZs : List D → Bool
  | [] => true
  | d :: ds => plainZ d && plainZs ds
def plainZk : List (L2.Key × D) → Bool
  | [] => true
  | (_, d) :: ds => plainZ d && plainZk ds
end
/-- a value at this place of the heap prints as the data say -/
structure Told (P : Program) (w : World) (h : Heap) (u : Value) (d : PyData) : Prop where
  rd : ∃ as, Reads h u d as
  rp : ∃ bs, ReadAtMost h d.depth bs ∧ ReprK P w bs h d.depth u d.shown
structure Tolds (P : Program) (w : World) (h : Heap) (us : List Value) (ds : List PyData) : Prop where
  rd : ∃ as, ReadsAll h us ds as
  rp : ∃ bs, ReadAtMost h (PyData.depthAll ds) bs ∧ ReprAllK P w bs h (PyData.depthAll ds) us (PyData.shownAll ds)
section
variable {P : Program} {w : World} {h : Heap}
theorem Tolds.nil : Tolds P w h [] [] := ⟨⟨_, .nil⟩, [], (fun _ z => nomatch z), by rw [PyData.shownAll]; exact .nil⟩
theorem atMost_app {m n : Nat} {b c : List Addr} (x : ReadAtMost h m b) (y : ReadAtMost h n c) : ReadAtMost h (max m n) (b ++ c) := (x.mono (Nat.le_max_left _ _)).append (y.mono (Nat.le_max_right _ _))
theorem Tolds.cons {u : Value} {d : PyData} {us : List Value} {ds : List PyData} (x : Told P w h u d) (y : Tolds P w h us ds) : Tolds P w h (u :: us) (d :: ds) := by
  obtain ⟨⟨a, ra⟩, b, hb, kb⟩ := x
  obtain ⟨⟨a', ra'⟩, b', hb', kb'⟩ := y
  refine ⟨⟨_, .cons ra ra'⟩, b ++ b', by rw [PyData.depthAll]; exact atMost_app hb hb', ?_⟩
  rw [PyData.depthAll, PyData.shownAll]
  exact .cons ((kb.more fun c hc => List.mem_append_left _ hc).level_le (Nat.le_max_left _ _)) (kb'.more_le (fun c hc => List.mem_append_right _ hc) (Nat.le_max_right _ _))
/-- the own address is none of those below -/
theorem apart {a : Addr} {d : PyData} {as bs : List Addr} {n : Nat} (r : Reads h (.ref a) d as) (e : d.depth = n + 1) (hb : ReadAtMost h n bs) : a ∉ bs := not_mem_of_deeper r (by omega) hb
theorem Told.list {a : Addr} {o : Obj} {n : Nat} {us : List Value} {ds : List PyData} (h1 : h.get? a = some o) (h2 : o.cls = .type "list") (h3 : o.data = .seq us.toArray n) (x : Tolds P w h us ds) : Told P w h (.ref a) (.list ds) := by
  obtain ⟨⟨as, ra⟩, b, hb, kb⟩ := x
  have r : Reads h (.ref a) (.list ds) _ := .list h1 h2 h3 (by simpa using ra)
  have ed : (PyData.list ds).depth = PyData.depthAll ds + 1 := by rw [PyData.depth]
  refine ⟨⟨_, r⟩, a :: b, ReadAtMost.cons r (by omega) hb, ?_⟩
  rw [ed, PyData.shown]
  cases us with
  | nil =>
    cases ra
    rw [PyData.shownAll, listText_nil]
    exact ReprK.listEmpty h1 h2 h3
  | cons y us => exact ReprK.list h1 h2 h3 (apart r ed hb) (by simpa using kb.length_eq) fun i y e => kb.item i y (by simpa using e)
theorem Told.tuple {a : Addr} {o : Obj} {n : Nat} {us : List Value} {ds : List PyData} (h1 : h.get? a = some o) (h2 : o.cls = .type "tuple") (h3 : o.data = .seq us.toArray n) (x : Tolds P w h us ds) : Told P w h (.ref a) (.tuple ds) := by
  obtain ⟨⟨as, ra⟩, b, hb, kb⟩ := x
  have r : Reads h (.ref a) (.tuple ds) _ := .tuple h1 h2 h3 (by simpa using ra)
  have ed : (PyData.tuple ds).depth = PyData.depthAll ds + 1 := by rw [PyData.depth]
  refine ⟨⟨_, r⟩, a :: b, ReadAtMost.cons r (by omega) hb, ?_⟩
  rw [ed, PyData.shown]
  exact ReprK.tuple h1 h2 h3 (apart r ed hb) (by simpa using kb)
theorem Told.dict {a : Addr} {o : Obj} {n : Nat} {es : Array DictEntry} {ps : List (PyData × PyData)} (hs : (a == sysModules) = false) (h1 : h.get? a = some o) (h2 : o.cls = .type "dict") (h3 : o.data = .dict es n)
    (x : Tolds P w h (es.toList.map (·.key)) (ps.map (·.1))) (y : Tolds P w h (es.toList.map (·.val)) (ps.map (·.2))) : Told P w h (.ref a) (.dict ps) := by
  obtain ⟨⟨a1, r1⟩, b1, hb1, k1⟩ := x
  obtain ⟨⟨a2, r2⟩, b2, hb2, k2⟩ := y
  have r : Reads h (.ref a) (.dict ps) _ := .dict h1 h2 h3 r1 r2
  have ed : (PyData.dict ps).depth = PyData.depthKv ps + 1 := by rw [PyData.depth]
  have hb : ReadAtMost h (PyData.depthKv ps) (b1 ++ b2) := (hb1.mono (PyData.depthAll_keys_le ps)).append (hb2.mono (PyData.depthAll_vals_le ps))
  refine ⟨⟨_, r⟩, a :: (b1 ++ b2), ReadAtMost.cons r (by omega) hb, ?_⟩
  rw [ed, PyData.shown, PyData.shownKv_eq]
  exact ReprK.dict h1 h2 h3 hs (apart r ed hb) (ReprEntriesK.of_two es.toList _ _ (k1.more_le (fun c hc => List.mem_append_left _ hc) (PyData.depthAll_keys_le ps)) (k2.more_le (fun c hc => List.mem_append_right _ hc) (PyData.depthAll_vals_le ps)))
end
/-! sizes of the parts -/
section
variable {X : Cx} {pins : List (Addr × Obj)} {σ : L2.St} {H : Hp} {s : Shared}
/-- what repr asks of data -/
def okZ (d : D) : Bool := plainZ d && ((toPy d).showable && decide ((toPy d).depth ≤ 50) && decide ((toPy d).shown.length ≤ 1000000))
end
end DL
/-! the data layer, part 13: isinstance, repr, in, enumerate, zip -/
namespace DL
open PySem PySem.Spec PyProof.Rows L2
/-! ### isinstance of a built-in class -/
/-- the datum's type by name; an object has none here -/
def tyN : D → Option String
  | .non => some "NoneType"
  | .bl _ => some "bool"
  | .int _ => some "int"
  | .str _ => some "str"
  | .lst _ => some "list"
  | .scr _ => some "list"
  | .tup _ => some "tuple"
  | .dic _ => some "dict"
  | .dit _ => some "dict"
  | .dkl _ => some "dict"
  | .dtl _ => none
  | .pnK _ _ => none
  | .pnT _ _ => none
  | .obj _ _ _ => none
  | .cls _ => none
  | .xcl _ _ => none
def isTy (T : String) (d : D) : Bool := match tyN d with
  | some t => t == T || (t == "bool" && T == "int")
  | none => false
def tyNames : List String := ["NoneType", "bool", "int", "str", "list", "tuple", "dict"]
theorem kit_names : (tyNames.all fun t => (["bool", "int", "str", "list", "tuple", "dict"] : List String).all fun T => kitB t T == some (t == T || (t == "bool" && T == "int"))) = true := by decide +kernel
theorem kit_name {t T : String} (h1 : t ∈ tyNames) (h2 : T ∈ (["bool", "int", "str", "list", "tuple", "dict"] : List String)) : kitB t T = some (t == T || (t == "bool" && T == "int")) :=
  eq_of_beq (List.all_eq_true.mp (List.all_eq_true.mp kit_names t h1) T h2)
theorem tyx_of {K : Fg} {O : List Addr} {H : Hp} {v : V} {d : D} {t : String} (h : B2 K O H v d) (e : tyN d = some t) : TyX K H v (.type t) ∧ t ∈ tyNames := by
  cases d with
  | non => obtain rfl := h.non; cases e; exact ⟨.base .non, by simp [tyNames]⟩
  | bl b => obtain rfl := h.bl; cases e; exact ⟨.base (.bl b), by simp [tyNames]⟩
  | int b => obtain rfl := h.int; cases e; exact ⟨.base (.int b), by simp [tyNames]⟩
  | str b => obtain rfl := h.str; cases e; exact ⟨.base (.str b), by simp [tyNames]⟩
  | lst ds => obtain ⟨a, vs, rfl, e1, _⟩ := h.lst; cases e; exact ⟨.base (.lst e1), by simp [tyNames]⟩
  | scr ds =>
    obtain ⟨a, vs, rfl, e1, _⟩ := h.scr
    cases e
    refine ⟨?_, by simp [tyNames]⟩
    rcases e1 with (e1 | ⟨o, e1⟩) | ⟨o, its, n, e1, e2, _⟩
    · exact .base (.lst e1)
    · exact .base (.frz e1)
    · exact .kList e1 e2
  | tup ds => obtain ⟨a, vs, rfl, e1, _⟩ := h.tup; cases e; exact ⟨.base (.tup e1), by simp [tyNames]⟩
  | dic ds => obtain ⟨a, vs, rfl, e1, _⟩ := h.dic; cases e; exact ⟨.base (.dK e1), by simp [tyNames]⟩
  | dit ds => obtain ⟨a, vs, rfl, e1, _⟩ := h.dit; cases e; exact ⟨.base (.dT e1), by simp [tyNames]⟩
  | dkl ds =>
    cases e
    rcases h with h | ⟨l, o, rfl, _, h⟩
    · cases h with | dkl h r => exact ⟨.fDict (hide_same _ _ h), by simp [tyNames]⟩
    · cases h
  | dtl ds => cases e
  | pnK _ _ => cases e
  | pnT _ _ => cases e
  | obj c ns ds => cases e
  | cls c => cases e
  | xcl c n => cases e
def mIsi (T : String) (ma : DTE) : DTE := fun Γ Q => ma Γ fun r Γ1 => ∃ d, rd Γ1 r = some d ∧ (tyN d).isSome = true ∧ Q (.val (.bl (isTy T d))) Γ1
section
variable {X : Cx} {C : Ctx} {ta tb : TE} {ma mb : DTE} {a b e : Expr} {pos p p2 : Pos}
theorem sim_isi {T : String} (h2 : T ∈ (["bool", "int", "str", "list", "tuple", "dict"] : List String)) (ha : SimE C ta ma) : SimE C (tCB (rIsi C.K) (tCons ta (tCons (tC (.ty T)) tNil))) (mIsi T ma) := fun Γ O σ H Qd Q R h k => by
  refine ha Γ O σ H _ _ R h fun ra Γ1 x H1 R1 e1 q1 => ?_
  obtain ⟨d, hd, ht, q⟩ := q1
  obtain ⟨t, ht⟩ := Option.isSome_iff_exists.mp ht
  obtain ⟨ty, hm⟩ := tyx_of (R1.pend.b2 R1.rel hd) ht
  refine ⟨x, .ty T, .type t, .type T, isTy T d, rfl, .ty T, ty, ?_, k (.val (.bl (isTy T d))) Γ1 _ H1 ⟨R1.rel, .bl _⟩ (.val e1.1) q⟩
  unfold isTy
  rw [ht]
  exact kit_ty (kit_name hm h2)
theorem de_isi {T : String} {x : Str} (h2 : T ∈ (["bool", "int", "str", "list", "tuple", "dict"] : List String)) (hg : Gl X "isinstance") (hm : X.mg "isinstance" = none) (ha : DE X C a ta ma) (hT : PE X (.Name x p2) (tC (.ty T)))
    (he : starEach [a, .Name x p2] X.env = (false, eval a X.env) :: starEach [.Name x p2] X.env := by rfl) (he2 : starEach [.Name x p2] X.env = (false, eval (.Name x p2) X.env) :: starEach [] X.env := by rfl) (hpl : (backTo pos (starEach [.Name x p2] X.env)).any (·.1) = false := by rfl) {K0 : Fg} (hK0 : X.K = K0 := by rfl) (hK : K0 = C.K := by rfl) :
    DE X C (.Call (.Name "isinstance" p) [a, .Name x p2] [] pos) (tCB (rIsi K0) (tCons ta (tCons (tC (.ty T)) tNil))) (mIsi T ma) := by
  subst hK0
  exact (⟨pe_callB call_isi hg hm (by decide +kernel) (pa_cons ha.pe (pa_cons hT pa_nil he2) he) (he := he) (hpl := hpl), by rw [hK]; exact sim_isi h2 ha.sim⟩)
/-! ### repr -/
def okR (d : D) : Bool := plain d && ((toPy d).showable && decide ((toPy d).depth ≤ 50) && decide ((toPy d).shown.length ≤ 1000000) && !(toPy d).hasDict)
def reprD : List D → (Res → Prop) → Prop
  | [d], Q => (d = .dic [] ∨ okR d = true ∨ okZ d = true) ∧ Q (.val (.str (toPy d).shown))
  | _, _ => False
/-! ### in, not in -/
def inD : D → D → (Res → Prop) → Prop
  | x, .lst ds, Q => okE x = true ∧ okE (.lst ds) = true ∧ Q (.val (.bl (ds.any fun z => eqv z x)))
  | x, .tup ds, Q => ∃ i ns, x = .int i ∧ ints? ds = some ns ∧ Q (.val (.bl (decide (i ∈ ns))))
  | .str c, .str z, Q => ∃ k, c = ⟨#[k]⟩ ∧ Q (.val (.bl (decide (k ∈ z.cps.toList))))
  | _, _, _ => False
def ninD (x y : D) (Q : Res → Prop) : Prop := inD x y fun r => ∃ b, r = .val (.bl b) ∧ Q (.val (.bl (!b)))
def uNotIn (K : Fg) : R2 := fun x y H Q => rNotInD K x y H Q ∨ (rIn K true x y H Q ∨ ∃ (c : Nat) (z : Str), x = .str ⟨#[c]⟩ ∧ y = .str z ∧ Q (.bl (!decide (c ∈ z.cps.toList))) H)
theorem op_uNotIn (hu : X.A.units + 65 < cLine) : OpR X (compareOp .NotIn) (uNotIn X.K) := (op_notInD hu).or (op_notIn_seq.or op_notIn_sign)
theorem inV_ints {i : Int} : ∀ ns : List Int, inV (.int i) (ns.map V.int) = decide (i ∈ ns)
  | [] => rfl
  | n :: ns => by
    have ih := inV_ints (i := i) ns
    unfold inV at ih ⊢
    rw [List.map_cons, List.any_cons, ih]
    by_cases h : n = i
    · subst h; simp [eqV]
    · have h' : ¬ i = n := fun z => h z.symm
      simp [eqV, h, h']
theorem flat_ints (ns : List Int) : (ns.map V.int).all flatV = true := by
  induction ns with
  | nil => rfl
  | cons n ns ih => rw [List.map_cons, List.all_cons, ih]; rfl
theorem toPys_any (x : D) : ∀ ds : List D, (toPys ds).any (fun z => PyData.eqv z (toPy x)) = ds.any fun z => eqv z x
  | [] => by rw [toPys]; rfl
  | d :: ds => by rw [toPys, List.any_cons, List.any_cons, toPys_any x ds]; rfl
theorem sim_nin {K : Fg} : SimR2 K (uNotIn K) ninD := fun O H x y a b Qd Q h1 h2 q k => by
  unfold ninD inD at q
  split at q
  · rename_i ds
    obtain ⟨q1, q2, bb, hb, q⟩ := q
    cases hb
    unfold okE at q1 q2
    rw [Bool.and_eq_true] at q1 q2
    have d2 := h2.dp q2.1
    have s2 := q2.2
    rw [toPy] at d2 s2
    exact .inl ⟨_, _, h1.dp q1.1, d2, q1.2, s2, k.val _ _ (.bl _) (by rw [toPys_any]; exact q)⟩
  · obtain ⟨i, ns, rfl, e, bb, hb, q⟩ := q
    cases hb
    obtain rfl := ints?_eq e
    obtain rfl := h1.int
    obtain ⟨p, vs, rfl, e, r⟩ := h2.tup
    obtain rfl := r.ints
    refine .inr (.inl ⟨p, _, rfl, .inr (SqT.of e), rfl, flat_ints ns, ?_⟩)
    exact k.val _ _ (.bl _) (by rw [if_pos rfl, inV_ints]; exact q)
  · obtain ⟨c, rfl, bb, hb, q⟩ := q
    cases hb
    obtain rfl := h1.str
    obtain rfl := h2.str
    exact .inr (.inr ⟨c, _, rfl, rfl, k.val _ _ (.bl _) q⟩)
  · exact q.elim
end
/-! ### enumerate, zip -/
def enumD : Nat → List D → List D
  | _, [] => []
  | k, d :: ds => .tup [.int k, d] :: enumD (k + 1) ds
theorem enumD_len : ∀ (k : Nat) (ds : List D), (enumD k ds).length = ds.length
  | _, [] => rfl
  | k, d :: ds => by unfold enumD; rw [List.length_cons, List.length_cons, enumD_len (k + 1) ds]
theorem enumD_get : ∀ (k : Nat) (ds : List D) (i : Nat) (d : D), ds[i]? = some d → (enumD k ds)[i]? = some (.tup [.int ((k + i : Nat) : Int), d])
  | _, [], _, _, h => by cases h
  | k, d :: ds, 0, d', h => by cases h; rfl
  | k, d :: ds, i + 1, d', h => by
    have := enumD_get (k + 1) ds i d' h
    rw [show k + (i + 1) = k + 1 + i by omega]
    exact this
theorem itd_enum {K : Fg} {a : Addr} {ds : List D} : ItD K (Ite K a) ds.length (fun O H => B2 K O H (.ref a) (.lst ds)) (enumD 0 ds) where
  len := enumD_len 0 ds
  go := fun i O H h hi => by
    obtain ⟨a', vs, e, h1, r⟩ := h.lst
    cases e
    have : i < vs.length := by rw [r.length]; exact hi
    exact ⟨vs, vs[i], SqL.of h1, by simp [this]⟩
  stop := fun O H h => by
    obtain ⟨a', vs, e, h1, r⟩ := h.lst
    cases e
    exact ⟨vs, SqL.of h1, by rw [r.length]; exact Nat.le_refl _⟩
  yld := fun i O H x H' h hi y => by
    obtain ⟨a', vs, e, h1, r⟩ := h.lst
    cases e
    obtain ⟨T, x', rfl, hT, rfl, hy⟩ := y
    obtain ⟨d, hd, hr⟩ := r.getV (hy vs (SqL.of h1))
    refine ⟨_, enumD_get 0 ds i d hd, .inr ⟨T, _, _, rfl, hT, rfl, .cons ?_ (.cons hr .nil), rfl⟩⟩
    rw [Nat.zero_add]
    exact .int _
/-! ### enumerate(tuple) -/
set_option maxHeartbeats 1000000 in
theorem meets_enumerate_new1 {v : Value} {o : Obj} {H : Heap → Prop} (B : Begins v o H) :
    Meets (Builtin.«enumerate.__new__» ⟨[.type "enumerate", v], []⟩) (fun _ R s => H s.heap ∧
      R (.ok (.ret (.ref (s.heap.push o).objs.size))) { s with heap := (s.heap.push o).push { cls := .type "enumerate", data := .fields #[.none, .bool false, .ref s.heap.objs.size, rawInt 0, .none, .none] } }) :=
  .of_wp fun prog w A R s h => by
    obtain ⟨hp, g, d, tk, os⟩ := s; obtain ⟨h1, h⟩ := h
    have hsub := sub_enumerate
    have q1 : ∀ {A' : Around} {E : Value → Shared → Prop} {Q : Value → Shared → Prop}, Q (.ref hp.objs.size) ⟨hp.push o, g, d, tk, os⟩ → wpAny (model prog w) A' (pyIter v) Q E ⟨hp, g, d, tk, os⟩ :=
      fun q => B.iter prog w _ _ ⟨hp, g, d, tk, os⟩ _ h1 q
    wp_walk using q1
    refine wpAny_stack_any fun st => wpAny_pure ?_
    split
    · rename_i c _ _ _ _ _
      cases (c == Value.type "enumerate")
      · wp_walk using q1
        exact ⟨_, rfl, h⟩
      · wp_walk using q1
        exact ⟨_, rfl, h⟩
    · wp_walk using q1
      exact ⟨_, rfl, h⟩
theorem enum_begins1 {prog : Program} {w : World} {A : Around} {E : Value → Shared → Prop} {s : Shared} {v : Value} {o : Obj} {H : Heap → Prop} {Q : Value → Shared → Prop} (B : Begins v o H) (h1 : H s.heap)
    (h : ∀ h', IsEnum h' (s.heap.objs.size + 1) s.heap.objs.size 0 .none → h'.get? s.heap.objs.size = some o → h'.objs.size = s.heap.objs.size + 2 →
      (∀ b o, s.heap.get? b = some o → h'.get? b = some o) → Q (.ref (s.heap.objs.size + 1)) { s with heap := h' }) :
    wpAny (model prog w) A (call (.type "enumerate") [v]) Q E s := by
  refine callType_new F.called_enumerate (by decide) (F.typeCall_enumerate_1 _) (F.newCall_enumerate_1 _) (fun obj => F.args_object_init_2 obj _) F.entry_enumerate_new
    (meets_enumerate_new1 B) ⟨h1, ?_⟩
  have hz : (s.heap.push o).objs.size = s.heap.objs.size + 1 := Heap.size_push ..
  show _ ∧ _
  rw [hz]
  have he : IsEnum ((s.heap.push o).push { cls := .type "enumerate", data := .fields #[.none, .bool false, .ref s.heap.objs.size, rawInt 0, .none, .none] }) (s.heap.objs.size + 1) s.heap.objs.size 0 .none := by
    have := Heap.get?_push_size (s.heap.push o) (o := { cls := .type "enumerate", data := .fields #[.none, .bool false, .ref s.heap.objs.size, rawInt 0, .none, .none] }) rfl
    rw [hz] at this; exact this
  refine ⟨⟨_, he, rfl⟩, h _ he (Heap.get?_push_of_some _ (Heap.get?_push_size _ B.free)) (by rw [Heap.size_push, hz]) fun b o x => Heap.get?_push_of_some _ (Heap.get?_push_of_some _ x)⟩
/-- the tuple at a, each item in a new pair -/
def IteT (K : Fg) (a : Addr) : It :=
  ⟨fun i H => ∃ (xs : List V) (x : V), SqT K H a xs ∧ xs[i]? = some x, fun i H v H' => ∃ T x, v = .ref T ∧ H T = none ∧ H' = upd H T (.tup [.int (i : Nat), x]) ∧ ∀ xs, SqT K H a xs → xs[i]? = some x, fun i H => ∃ xs : List V, SqT K H a xs ∧ xs.length ≤ i⟩
theorem turn_enumT {P : Program} {w : World} {K : Fg} {elts : List Expr} {kk : Nat} {tpos : Pos} (a e it : Addr) :
    Turn P w K (.Tuple elts kk tpos) (IteT K a) [e, it] e (fun i h => (∃ old, IsEnum h e it ((i : Nat) : Int) old) ∧ h.IsTupleIter it a i ∧ e ≠ it) where
  mem := by simp
  obj := fun i h st b hb => by
    obtain ⟨⟨old, he⟩, ⟨o, ho, hc, hd⟩, _⟩ := st
    have e' : b = e ∨ b = it := by simpa using hb
    rcases e' with z | z
    · rw [z]; exact ⟨_, he, fun v q => nomatch q⟩
    · rw [z]; exact ⟨o, ho, fun v q => by rw [hd] at q; cases q⟩
  keep := fun i h h' st k => let ⟨⟨old, he⟩, hi, hne⟩ := st; ⟨⟨old, k e (by simp) _ he⟩, hi.at fun o q => k it (by simp) o q, hne⟩
  item := by
    intro X hP hw hK hc i pins s σ H E I hf st hg
    subst hP hw hK
    obtain ⟨⟨old, he⟩, hit, hne⟩ := st
    obtain ⟨xs, x, hq, hx⟩ := hg
    obtain ⟨its, rv, p, hz⟩ := I.tuple hq
    obtain ⟨u, hu, ru⟩ := rv.get hx
    have hel : e < s.heap.objs.size := Heap.lt_size he
    have hil : it < s.heap.objs.size := by obtain ⟨_, q, _⟩ := hit; exact Heap.lt_size q
    have hai : a ≠ it := fun z => by
      obtain ⟨o, ho, hc', _⟩ := hit
      obtain ⟨o2, ho2, hc2, _⟩ := (show s.heap.IsTuple a its.toArray from p)
      rw [z] at ho2
      rw [ho] at ho2
      cases ho2
      rw [hc'] at hc2
      exact absurd hc2 (by decide)
    have hae : e ≠ a := fun z => by
      obtain ⟨o2, ho2, hc2, _⟩ := (show s.heap.IsTuple a its.toArray from p)
      rw [← z] at ho2
      have he' := he
      unfold IsEnum at he'
      rw [he'] at ho2
      cases ho2
      exact absurd hc2 (show ¬ Value.type "enumerate" = Value.type "tuple" by decide)
    have hlt : i < its.toArray.size := by
      have := List.getElem?_eq_some_iff.mp hu
      obtain ⟨h, _⟩ := this
      simpa using h
    refine wpAny_pyNext_enum_itemC (Draws.tuple (A := X.A.in1) (show X.A.in1.handled = none from I.ok.hd hc) it a hai its.toArray) he ⟨hit, p⟩ hlt hne (by simp [hne, hae]) fun x' h' tk hx' ho hit' hT hsz hk => ?_
    obtain ⟨hit', ht'⟩ := hit'
    have ex : x' = u := by
      have h1 : its[i]? = some x' := by simpa using hx'
      rw [h1] at hu
      exact Option.some.inj hu
    subst ex
    refine ⟨_, rfl, wpAny_letOwnedTupleGo_enum (s := { s with heap := h', toks := tk + 1 }) ho fun h'' he' sb => ?_⟩
    have hT2 : h''.get? s.heap.objs.size = some { cls := .type "tuple", data := .seq #[.int i tk, x'] } := (sb.2 _ (Nat.ne_of_gt hel)).trans hT
    have new : ObjOk X.prog X.w (upd H s.heap.objs.size (.tup [.int (i : Nat), x])) h'' s.heap.objs.size (.tup [.int (i : Nat), x]) :=
      ⟨by show 2 ≤ sizeLine; decide, [.int i tk, x'], .cons ⟨_, rfl⟩ (.cons ru .nil), ⟨_, hT2, rfl, _, rfl⟩⟩
    have I1 : Inv X pins σ (upd H s.heap.objs.size (.tup [.int (i : Nat), x])) { s with heap := h'', toks := tk + 1 } :=
      I.turnedNew (ch := [e, it]) (fun b ob hb q => (sb.2 b (fun z => hb (by simp [z]))).trans (hk b ob (fun z => hb (by simp [z])) (fun z => hb (by simp [z])) q)) hf (Nat.le_refl _) new
    refine ⟨.ref s.heap.objs.size, _, I1, rfl, ⟨_, x, rfl, I.hok.fresh (Nat.le_refl _), rfl, fun ys hy => by rw [I.tuple_inj hy hq]; exact hx⟩, ⟨⟨x', ?_⟩, hit'.at fun o q => (sb.2 it (Ne.symm hne)).trans q, hne⟩, fun b hb => ?_⟩
    · have e1 : ((i + 1 : Nat) : Int) = (i : Int) + 1 := by omega
      rw [e1]; exact he'
    · have hb' : b < s.heap.objs.size := by
        have e' : b = e ∨ b = it := by simpa using hb
        rcases e' with z | z
        · rw [z]; exact hel
        · rw [z]; exact hil
      rw [upd_ne (Nat.ne_of_lt hb')]
      exact (hf b hb).1
  done := by
    intro X hP hw hK hc i pins s σ H E I hf st hg
    subst hP hw hK
    obtain ⟨⟨old, he⟩, hit, hne⟩ := st
    obtain ⟨xs, hq, hx⟩ := hg
    obtain ⟨its, rv, p, hz⟩ := I.tuple hq
    have hai : a ≠ it := fun z => by
      obtain ⟨o, ho, hc', _⟩ := hit
      obtain ⟨o2, ho2, hc2, _⟩ := (show s.heap.IsTuple a its.toArray from p)
      rw [z] at ho2
      rw [ho] at ho2
      cases ho2
      rw [hc'] at hc2
      exact absurd hc2 (by decide)
    obtain ⟨f0, f1, f2, f3, f4, f5⟩ := hf it (by simp)
    have hl := rv.length
    have h0 := I.ok.hd hc
    have hT : s.TypeIs (.ref e) "enumerate" := ⟨_, he, rfl⟩
    unfold pyNext
    refine wpAny_bind (wpAny_attempt (wpAny_callSpecial?_slot (name := Str.ofString "__next__") hT F.slot_enumerate_next
      (wpAny_call_entry F.slot_enumerate_next hT F.entry_enumerate_next ?_ (F.args_enumerate_next_1 _))))
    show wpAny _ _ (field (.ref e) 2 >>= _) _ _ _
    refine wpAny_bind (wpAny_field he rfl (x := .ref it) rfl ?_)
    refine wpAny_bind (wpAny_nextOf_tuple_end (A := X.A.in1) (show X.A.in1.handled = none from h0) hit p (by simp; omega) fun h' x eb hx' => ?_)
    obtain ⟨o, ho, hc⟩ := hx'
    refine wpAny_bind (wpAny_isInstance (T := "StopIteration") (b := true) ⟨o, ho, hc⟩ isSubtype_stop ?_)
    exact wpAny_pure ⟨rfl, I.turned (t' := s.toks) (fun b o hb q => eb b o hb q) f0 f1 f3 f4 f5⟩
  self := fun A i s Q E st h => let ⟨⟨_, he⟩, _⟩ := st; wpAny_pyIter_enum he h
def iEnumE (K : Fg) (ta : TA) : TI := fun σ H R => ta σ H fun vs H1 => ∃ a, vs = [.ref a] ∧ ((∃ xs, SqL K H1 a xs ∧ R (Ite K a) H1) ∨ ∃ xs, SqT K H1 a xs ∧ R (IteT K a) H1)
theorem pi_enumE {X : Cx} {e : Expr} {ta : TA} {p pos tpos : Pos} {elts : List Expr} {kk : Nat} (hg : Gl X "enumerate") (hm : X.mg "enumerate" = none) (ha : PA X [e] ta) (hs : starEach [e] X.env = [(false, eval e X.env)] := by rfl) :
    PI X (.Tuple elts kk tpos) (.Call (.Name "enumerate" p) [e] [] pos) (iEnumE X.K ta) := by
  refine ⟨fun pins s σ H R I h => ?_⟩
  refine Call_ (ld_blt I hg hm boot_enumerate (PyProof.Rows.callWith_type1 (thn (ha.run pos pins s σ H _ I h) fun us s1 ⟨vs, H1, I1, r1, q1⟩ => ?_) hs rfl))
  obtain ⟨a, ex, q⟩ := q1
  subst ex
  cases r1 with
  | cons r rr =>
    cases rr
    cases r
    have fpo : ∀ b ∈ [s1.heap.objs.size + 1, s1.heap.objs.size], s1.heap.objs.size ≤ b := fun b hb => by
      have e' : b = s1.heap.objs.size + 1 ∨ b = s1.heap.objs.size := by simpa using hb
      rcases e' with z | z
      · rw [z]; exact Nat.le_add_right _ _
      · rw [z]; exact Nat.le_refl _
    rcases q with ⟨xs, hq, q⟩ | ⟨xs, hq, q⟩
    · obtain ⟨its, rv, p', hz⟩ := I1.list hq
      refine call_enumerate_list p'.isList fun h' he hit hsz hk => wpAny_pyIter_enum he ?_
      have I2 : Inv X pins σ H1 { s1 with heap := h' } := I1.kept (t' := s1.toks) hk
      exact ⟨s1.heap.objs.size + 1, [s1.heap.objs.size + 1, s1.heap.objs.size], _, _, H1, rfl, I2, turn_enum a (s1.heap.objs.size + 1) s1.heap.objs.size, ⟨⟨.none, he⟩, hit, Nat.succ_ne_self _⟩, fun b hb => I1.fpOk (fpo b hb) (I1.hok.fresh (fpo b hb)), q⟩
    · obtain ⟨its, rv, p', hz⟩ := I1.tuple hq
      refine enum_begins1 (begins_tuple a its.toArray) p' fun h' he hit hsz hk => wpAny_pyIter_enum he ?_
      have I2 : Inv X pins σ H1 { s1 with heap := h' } := I1.kept (t' := s1.toks) hk
      exact ⟨s1.heap.objs.size + 1, [s1.heap.objs.size + 1, s1.heap.objs.size], _, _, H1, rfl, I2, turn_enumT a (s1.heap.objs.size + 1) s1.heap.objs.size, ⟨⟨.none, he⟩, ⟨_, hit, rfl, rfl⟩, Nat.succ_ne_self _⟩, fun b hb => I1.fpOk (fpo b hb) (I1.hok.fresh (fpo b hb)), q⟩
theorem itd_enumT {K : Fg} {a : Addr} {ds : List D} : ItD K (IteT K a) ds.length (fun O H => B2 K O H (.ref a) (.tup ds)) (enumD 0 ds) where
  len := enumD_len 0 ds
  go := fun i O H h hi => by
    obtain ⟨a', vs, e, h1, r⟩ := h.tup
    cases e
    have : i < vs.length := by rw [r.length]; exact hi
    exact ⟨vs, vs[i], SqT.of h1, by simp [this]⟩
  stop := fun O H h => by
    obtain ⟨a', vs, e, h1, r⟩ := h.tup
    cases e
    exact ⟨vs, SqT.of h1, by rw [r.length]; exact Nat.le_refl _⟩
  yld := fun i O H x H' h hi y => by
    obtain ⟨a', vs, e, h1, r⟩ := h.tup
    cases e
    obtain ⟨T, x', rfl, hT, rfl, hy⟩ := y
    obtain ⟨d, hd, hr⟩ := r.getV (hy vs (SqT.of h1))
    refine ⟨_, enumD_get 0 ds i d hd, .inr ⟨T, _, _, rfl, hT, rfl, .cons ?_ (.cons hr .nil), rfl⟩⟩
    rw [Nat.zero_add]
    exact .int _
def mEnum (ma : DTE) : DTI := fun Γ Q => ma Γ fun r Γ1 => ∃ d ds, rd Γ1 r = some d ∧ itemsOf d = some ds ∧ Q (srcOf d r) (enumD 0 ds) Γ1
theorem di_enum {X : Cx} {C : Ctx} {ta : TE} {ma : DTE} {a : Expr} {elts : List Expr} {kk : Nat} {p pos tpos : Pos} (hg : Gl X "enumerate") (hm : X.mg "enumerate" = none) (ha : DE X C a ta ma) (hs : starEach [a] X.env = (false, eval a X.env) :: starEach [] X.env := by rfl) (hs2 : starEach [a] X.env = [(false, eval a X.env)] := by rfl) {K0 : Fg} (hK0 : X.K = K0 := by rfl) (hK : K0 = C.K := by rfl) :
    DI X C (.Tuple elts kk tpos) (.Call (.Name "enumerate" p) [a] [] pos) (iEnumE K0 (tCons ta tNil)) (mEnum ma) := by
  subst hK0
  exact (⟨pi_enumE hg hm (pa_cons ha.pe pa_nil hs) hs2, fun Γ O σ H Qd R hR h k => ha.sim Γ O σ H _ _ hR h fun r Γ1 v H1 R1 e1 q1 => by
    obtain ⟨d, ds, hd, hi, q⟩ := q1
    unfold itemsOf at hi
    split at hi
    · cases hi
      obtain ⟨a, vs, rfl, e, _⟩ := (R1.pend.b2 R1.rel hd).lst
      refine ⟨a, rfl, .inl ⟨vs, SqL.of e, ?_⟩⟩
      rw [hK]
      exact k _ _ Γ1 _ H1 _ _ R1.rel e1.1 itd_enum (src_of R1 hd fun _ _ h => h) q
    · cases hi
      obtain ⟨a, vs, rfl, e, _⟩ := (R1.pend.b2 R1.rel hd).tup
      refine ⟨a, rfl, .inr ⟨vs, SqT.of e, ?_⟩⟩
      rw [hK]
      exact k _ _ Γ1 _ H1 _ _ R1.rel e1.1 itd_enumT (src_of R1 hd fun _ _ h => h) q
    · cases hi⟩)
end DL
/-! the data layer, part 14: short words for the printed derivations -/
namespace DL
open PySem PySem.Spec PyProof.Rows L2
theorem room65 {k : Nat} {A : Around} (r : Room k A) : A.units + 65 < cLine := by have := r.un; omega
structure DF (X : Cx) (C : Ctx) (ifs : List Expr) (t : TT) (m : DTT) : Prop where
  pts : PTs X ifs t
  sim : SimT C t m
section
variable {X : Cx} {C : Ctx} {elt tg iter c : Expr} {pos : Pos} {wi : TI} {g : TG} {tt : TT} {te : TE} {mi : DTI} {mg : DTG} {mt : DTT} {me : DTE} {ifs : List Expr} {scope : Scope} {own : List (Str × Nat)}
theorem df_nil : DF X C [] tYes mYes := ⟨pts_nil, sim_yes⟩
theorem df_one {t : TT} {m : DTT} (h : DT X C c t m) : DF X C [c] t m := ⟨pts_one h.pt, h.sim⟩
/-- the parts of a comprehension -/
structure DL1 (X : Cx) (C : Ctx) (elt tg iter : Expr) (ifs : List Expr) (scope : Scope) (own : List (Str × Nat)) (wi : TI) (g : TG) (tt : TT) (te : TE) (mi : DTI) (mg : DTG) (mt : DTT) (me : DTE) : Prop where
  calm : X.calm = true
  nd : X.N.Nodup
  hi : DI X C tg iter wi mi
  ok : BlkOk X.N X.env.scope scope own
  hg : ∀ (U : List (Addr × HO)) (s : Shared) (H : Hp) (A : Addr) (cl : List (Str × Addr)) (fp : List Addr), DG (X.blk s H scope (compEnvC scope cl A X.env) fp) { C with U := U } tg g mg
  hgo : OwnG g (own.map (·.2))
  hgm : ∀ (v : V) (σ : L2.St) (H : Hp) (Q Q' : L2.St → Hp → Prop), (∀ σ H, Q σ H → Q' σ H) → g v σ H Q → g v σ H Q'
  ht : ∀ (U : List (Addr × HO)) (s : Shared) (H : Hp) (A : Addr) (cl : List (Str × Addr)) (fp : List Addr), DF (X.blk s H scope (compEnvC scope cl A X.env) fp) { C with U := U } ifs tt mt
  he : ∀ (U : List (Addr × HO)) (s : Shared) (H : Hp) (A : Addr) (cl : List (Str × Addr)) (fp : List Addr), DE (X.blk s H scope (compEnvC scope cl A X.env) fp) { C with U := U } elt te me
theorem DL1.sim (h : DL1 X C elt tg iter ifs scope own wi g tt te mi mg mt me) (s : Shared) : SimE C (tLc wi g tt te (own.map (·.2))) (mComp mi mg mt me (own.map (·.2))) :=
  sim_comp h.hi.sim (fun U => (h.hg U s (fun _ => none) 0 [] []).sim) h.hgo (fun U => (h.ht U s (fun _ => none) 0 [] []).sim) (fun U => (h.he U s (fun _ => none) 0 [] []).sim) h.hgm
theorem de_comp (h : DL1 X C elt tg iter ifs scope own wi g tt te mi mg mt me) (hs : ∀ x, foldedSetIterable iter X.env x = pure x := by intro _; rfl) :
    DE X C (.ListComp elt [⟨tg, iter, ifs, 0⟩] scope pos) (tLc wi g tt te (own.map (·.2))) (mComp mi mg mt me (own.map (·.2))) :=
  ⟨pe_lc h.calm h.nd h.hi.pi h.ok (fun s H A cl fp => (h.hg C.U s H A cl fp).pg) (fun s H A cl fp => (h.ht C.U s H A cl fp).pts) (fun s H A cl fp => (h.he C.U s H A cl fp).pe) hs, h.sim X.s_0⟩
theorem ps_comp {i : Nat} {y : Str} {py : Pos} {spos : Pos} (h : DL1 X C elt tg iter ifs scope own wi g tt te mi mg mt me) (hy : X.N[i]? = some y) (hyl : X.env.scope.names.lookup y = some .local)
    (hsw : swapsWith (.ListComp elt [⟨tg, iter, ifs, 0⟩] scope pos) (some (.Name y py)) spos.line X.env = pure true) (hs : ∀ x, foldedSetIterable iter X.env x = pure x := by intro _; rfl) :
    PS X (.Assign [.Name y py] (.ListComp elt [⟨tg, iter, ifs, 0⟩] scope pos) spos) (tAsg (tLc wi g tt te (own.map (·.2))) (gName i)) :=
  ps_setLc h.calm h.nd hy hyl hsw h.hi.pi h.ok (fun s H A cl fp => (h.hg C.U s H A cl fp).pg) (fun s H A cl fp => (h.ht C.U s H A cl fp).pts) (fun s H A cl fp => (h.he C.U s H A cl fp).pe) hs
/-- name = [..], the name a plain local -/
theorem ds_setC {i : Nat} {y : Str} {py : Pos} {spos : Pos} (h : DL1 X C elt tg iter ifs scope own wi g tt te mi mg mt me) (hy : X.N[i]? = some y) (hyl : X.env.scope.names.lookup y = some .local)
    (hsw : swapsWith (.ListComp elt [⟨tg, iter, ifs, 0⟩] scope pos) (some (.Name y py)) spos.line X.env = pure true) (hs : ∀ x, foldedSetIterable iter X.env x = pure x := by intro _; rfl) :
    DS X C (.Assign [.Name y py] (.ListComp elt [⟨tg, iter, ifs, 0⟩] scope pos) spos) (tAsg (tLc wi g tt te (own.map (·.2))) (gName i)) (mSet i (mComp mi mg mt me (own.map (·.2)))) := ds_setS (ps_comp h hy hyl hsw hs) (h.sim X.s_0)
theorem ds_setCO {i : Nat} {y : Str} {py : Pos} {spos : Pos} (h : DL1 X C elt tg iter ifs scope own wi g tt te mi mg mt me) (hy : X.N[i]? = some y) (hyl : X.env.scope.names.lookup y = some .local)
    (hsw : swapsWith (.ListComp elt [⟨tg, iter, ifs, 0⟩] scope pos) (some (.Name y py)) spos.line X.env = pure true) (hs : ∀ x, foldedSetIterable iter X.env x = pure x := by intro _; rfl) :
    DS X C (.Assign [.Name y py] (.ListComp elt [⟨tg, iter, ifs, 0⟩] scope pos) spos) (tAsg (tLc wi g tt te (own.map (·.2))) (gName i)) (mSetO i (mComp mi mg mt me (own.map (·.2)))) := ds_setSO (ps_comp h hy hyl hsw hs) (h.sim X.s_0)
end
/-! comparisons in a chain -/
section
variable {X : Cx} {C : Ctx} {ta tb tc : TE} {ma mb mc : DTE} {a b c : Expr} {pos : Pos}
def mChain (f f' : Int → Int → Bool) (ma mb mc : DTE) : DTE := fun Γ Q => ma Γ fun ra Γ1 => mb Γ1 fun rb Γ2 => ∃ i j, ra = .val (.int i) ∧ rb = .val (.int j) ∧
  if f i j = true then mc Γ2 fun rc Γ3 => ∃ k, rc = .val (.int k) ∧ Q (.val (.bl (f' j k))) Γ3 else Q (.val (.bl false)) Γ2
theorem sim_chain {f f' : Int → Int → Bool} (ha : SimE C ta ma) (hb : SimE C tb mb) (hc : SimE C tc mc) : SimE C (tChain (rI0 fun i j => .bl (f i j)) (rI0 fun i j => .bl (f' i j)) ta tb tc) (mChain f f' ma mb mc) := fun Γ O σ H Qd Q R h k => by
  refine ha Γ O σ H _ _ R h fun ra Γ1 x H1 R1 e1 q1 => ?_
  refine hb Γ1 O σ H1 _ _ R1.rel q1 fun rb Γ2 y H2 R2 e2 q2 => ?_
  obtain ⟨i, j, rfl, rfl, q⟩ := q2
  obtain rfl := (show B2 C.K O H1 x (.int i) from .inl R1.2).int
  obtain rfl := (show B2 C.K O H2 y (.int j) from .inl R2.2).int
  refine ⟨i, j, rfl, rfl, f i j, rfl, ?_⟩
  cases hf : f i j with
  | true =>
    rw [hf] at q
    refine hc Γ2 O σ H2 _ _ R2.rel q fun rc Γ3 z H3 R3 e3 q3 => ?_
    obtain ⟨n, rfl, q3⟩ := q3
    obtain rfl := (show B2 C.K O H3 z (.int n) from .inl R3.2).int
    exact ⟨j, n, rfl, rfl, k (.val (.bl (f' j n))) Γ3 _ H3 ⟨R3.rel, .bl _⟩ (.val (L2.Same.trans e1.1 (L2.Same.trans e2.1 e3.1))) q3⟩
  | false =>
    rw [hf] at q
    exact k (.val (.bl false)) Γ2 _ H2 ⟨R2.rel, .bl _⟩ (.val (L2.Same.trans e1.1 e2.1)) q
end
section
variable {X : Cx} {C : Ctx} {a b c : Expr} {ta tb tc : TE} {ma mb mc : DTE} {op op' : CmpOp} {pos : Pos} {r r' : R2} {f f' : Int → Int → Bool}
theorem de_chain2 (h : ∀ {ta tb tc : TE}, PE X a ta → PE X b tb → PE X c tc → PE X (.Compare a [op, op'] [b, c] pos) (tChain (rI0 fun i j => .bl (f i j)) (rI0 fun i j => .bl (f' i j)) ta tb tc)) (ha : DE X C a ta ma) (hb : DE X C b tb mb) (hc : DE X C c tc mc) : DE X C (.Compare a [op, op'] [b, c] pos) (tChain (rI0 fun i j => .bl (f i j)) (rI0 fun i j => .bl (f' i j)) ta tb tc) (mChain f f' ma mb mc) :=
  ⟨h ha.pe hb.pe hc.pe, sim_chain ha.sim hb.sim hc.sim⟩
end
section
variable {P : Program} {w : World} {K : Fg} {mg : Str → Option Value} {base : Heap} {k : Nat} {f : Addr} {fd : FuncData} {ps : List Str}
theorem fn_dm {x qual : Str} {st : Stmt} {N : List Str} {ms : List Md} {sd : DSp} {m : DTS} (F : Fun K x qual st f fd) (S : FnScope N ps (defScope st)) (hl : ms.length = ps.length)
    (hv : ∀ ds Qd Ed, ds.length = ms.length → sd ds Qd Ed → m (endsD ms Qd) (startD N ms ds))
    (body : ∀ (cdv : Value) (A : Around) (outer : List PySem.Env) (s : Shared) (H0 : Hp) (vs : List V) (E : XK) (O : List Addr) (H : Hp), (A.deeper (envOfC qual (defScope st) s.heap.objs.size f cdv)).guards = some [] → Room k (A.deeper (envOfC qual (defScope st) s.heap.objs.size f cdv)) →
      ∃ t, DSs (cxOf (L2.CX P w) P w K mg base N qual (defScope st) f cdv A outer s H0 E).nox (ctx0 K O H ms vs) (defBody st) t m) : FnG P w K mg base (k + 1) f fd ps (spD K ms sd) :=
  fn_d F S hl fun cdv A outer s H0 vs E O H hg hr => by
    obtain ⟨t, d⟩ := body cdv A outer s H0 vs E O H hg hr
    exact ⟨t, m, d, hv⟩
end
/-! comparisons as tests, the fragment named from outside -/
section
variable {X : Cx} {C : Ctx} {a b : Expr} {ta tb : TE} {ma mb : DTE} {pos : Pos}
theorem dt_eq (hu : X.A.units + 64 < cLine) (ha : DE X C a ta ma) (hb : DE X C b tb mb) {K0 : Fg} (hK0 : X.K = K0 := by rfl) (hK : K0 = C.K := by rfl) : DT X C (.Compare a [.Eq] [b] pos) (tTest (tOp (rEqD K0) ta tb)) (mTest (mOp eqD ma mb)) := by
  subst hK0; exact dt_cmp (op_eqD hu) (by rw [hK]; exact sim_eq) ha hb (nomark _)
theorem dt_ne (hu : X.A.units + 64 < cLine) (ha : DE X C a ta ma) (hb : DE X C b tb mb) {K0 : Fg} (hK0 : X.K = K0 := by rfl) (hK : K0 = C.K := by rfl) : DT X C (.Compare a [.NotEq] [b] pos) (tTest (tOp (rNeD K0) ta tb)) (mTest (mOp neD ma mb)) := by
  subst hK0; exact dt_cmp (op_neD hu) (by rw [hK]; exact sim_ne) ha hb (nomark _)
theorem dt_nin (hu : X.A.units + 65 < cLine) (ha : DE X C a ta ma) (hb : DE X C b tb mb) (hm : behindInMarks .NotIn b = false) {K0 : Fg} (hK0 : X.K = K0 := by rfl) (hK : K0 = C.K := by rfl) : DT X C (.Compare a [.NotIn] [b] pos) (tTest (tOp (uNotIn K0) ta tb)) (mTest (mOp ninD ma mb)) := by
  subst hK0; exact dt_cmp (op_uNotIn hu) (by rw [hK]; exact sim_nin) ha hb hm
end
end DL
/-! the data layer, part 15: words for what is left of a law: plain data, loops by an invariant, comprehensions by a function -/
namespace DL
open PySem L2
/-! ### lists of numbers -/
abbrev iL (l : List Int) : D := .lst (l.map D.int)
theorem toPys_ints : ∀ l : List Int, toPys (l.map D.int) = l.map PyData.int
  | [] => by simp only [List.map_nil, toPys]
  | x :: l => by rw [List.map_cons, toPys, toPys_ints l, toPy, List.map_cons]
theorem plains_ints : ∀ l : List Int, plains (l.map D.int) = true
  | [] => by simp only [List.map_nil, plains]
  | x :: l => by rw [List.map_cons, plains, plains_ints l, plain]; rfl
theorem lay_ints : ∀ l : List Int, PyData.canLayAll0 (l.map PyData.int) = true
  | [] => by simp only [List.map_nil, PyData.canLayAll0]
  | x :: l => by rw [List.map_cons, PyData.canLayAll0, lay_ints l, PyData.canLay0]; rfl
theorem depth_ints : ∀ l : List Int, PyData.depthAll (l.map PyData.int) = 0
  | [] => by simp only [List.map_nil, PyData.depthAll]
  | x :: l => by rw [List.map_cons, PyData.depthAll, depth_ints l, PyData.depth]; rfl
theorem eqvAll_ints : ∀ l m : List Int, PyData.eqvAll (l.map PyData.int) (m.map PyData.int) = decide (l = m)
  | [], [] => by simp [PyData.eqvAll]
  | [], y :: m => by simp [PyData.eqvAll]
  | x :: l, [] => by simp [PyData.eqvAll]
  | x :: l, y :: m => by
    rw [List.map_cons, List.map_cons, PyData.eqvAll, eqvAll_ints l m, PyData.eqv]
    rw [Bool.eq_iff_iff]
    simp
theorem okE_int (i : Int) : okE (.int i) = true := by simp [okE, plain, toPy, SeqAt.shaped, PyData.canLay0, PyData.depth]
theorem okE_bl (i : Bool) : okE (.bl i) = true := by simp [okE, plain, toPy, SeqAt.shaped, PyData.canLay0, PyData.depth]
theorem okE_ints (l : List Int) : okE (.lst (l.map D.int)) = true := by simp [okE, plain, toPy, SeqAt.shaped, PyData.canLay0, PyData.depth, plains_ints, toPys_ints, lay_ints, depth_ints]
theorem okE_tints (l : List Int) : okE (.tup (l.map D.int)) = true := by simp [okE, plain, toPy, SeqAt.shaped, PyData.canLay0, PyData.depth, plains_ints, toPys_ints, lay_ints, depth_ints]
theorem eqv_int (i j : Int) : eqv (.int i) (.int j) = decide (i = j) := by
  rw [eqv, toPy, toPy, PyData.eqv, Bool.eq_iff_iff]; simp
theorem eqv_bl (i j : Bool) : eqv (.bl i) (.bl j) = decide (i = j) := by
  rw [eqv, toPy, toPy, PyData.eqv, Bool.eq_iff_iff]; simp
theorem eqv_ints (l m : List Int) : eqv (.lst (l.map D.int)) (.lst (m.map D.int)) = decide (l = m) := by
  rw [eqv, toPy, toPy, PyData.eqv, toPys_ints, toPys_ints, eqvAll_ints]
theorem eqv_tints (l m : List Int) : eqv (.tup (l.map D.int)) (.tup (m.map D.int)) = decide (l = m) := by
  rw [eqv, toPy, toPy, PyData.eqv, toPys_ints, toPys_ints, eqvAll_ints]
theorem eqv_ssS (a b : Str) : eqv (.str a) (.str b) = (a == b) := by
  rw [eqv, toPy, toPy, PyData.eqv]
/-- l[i] -/
def ig (l : List Int) (i : Int) : Int := l.getD (if 0 ≤ i then i else i + l.length).toNat 0
theorem atI_ints {l : List Int} {i : Int} (h : -(l.length : Int) ≤ i ∧ i < l.length) : atI (l.map D.int) i = some (.int (ig l i)) := by
  unfold atI ixN ig
  rw [List.length_map]
  by_cases h0 : 0 ≤ i
  · rw [if_pos h0, if_pos h0, if_pos h.2, Option.bind_some, List.getElem?_map, List.getElem?_eq_getElem (by omega)]
    simp [List.getD, List.getElem?_eq_getElem (show i.toNat < l.length by omega)]
  · rw [if_neg h0, if_neg h0, if_pos h.1, Option.bind_some, List.getElem?_map, List.getElem?_eq_getElem (by omega)]
    simp [List.getD, List.getElem?_eq_getElem (show (i + l.length).toNat < l.length by omega)]
theorem ixN_nat {n j : Nat} (h : j < n) : ixN n (j : Int) = some j := by
  unfold ixN
  rw [if_pos (by omega), if_pos (by omega)]
  rfl
theorem ixN_pos {n : Nat} {i : Int} (h0 : 0 ≤ i) (h : i < n) : ixN n i = some i.toNat := by
  unfold ixN
  rw [if_pos h0, if_pos h]
/-! ### repr of numbers -/
theorem Str_len (s : String) : (Str.ofString s).length = s.length := by
  exact ofString_length s
/-! ### loops by an invariant -/
theorem loop_inv {src : Src} {mg : DTG} {mb : DTS} {K : DEnds} (I : List D → Env → Prop) (hs : ∀ xs Γ, I xs Γ → srcL Γ src) (hn : ∀ Γ, I [] Γ → K.nx Γ)
    (hc : ∀ x xs Γ (N : Env → Prop), I (x :: xs) Γ → (∀ Γ', I xs Γ' → N Γ') → mg x Γ fun Γ2 => mb { K with nx := N, ct := N, bk := K.nx } Γ2) : ∀ (items : List D) (Γ : Env), I items Γ → loopM src mg mb K items Γ
  | [], Γ, h => ⟨hs _ _ h, hn _ h⟩
  | x :: xs, Γ, h => ⟨hs _ _ h, hc x xs Γ _ h fun Γ' h' => loop_inv I hs hn hc xs Γ' h'⟩
/-- over a list of numbers -/
theorem loop_ints {src : Src} {mg : DTG} {mb : DTS} {K : DEnds} (I : List Int → Env → Prop) (hs : ∀ xs Γ, I xs Γ → srcL Γ src) (hn : ∀ Γ, I [] Γ → K.nx Γ)
    (hc : ∀ x xs Γ (N : Env → Prop), I (x :: xs) Γ → (∀ Γ', I xs Γ' → N Γ') → mg (.int x) Γ fun Γ2 => mb { K with nx := N, ct := N, bk := K.nx } Γ2) : ∀ (items : List Int) (Γ : Env), I items Γ → loopM src mg mb K (items.map D.int) Γ
  | [], Γ, h => ⟨hs _ _ h, hn _ h⟩
  | x :: xs, Γ, h => ⟨hs _ _ h, hc x xs Γ _ h fun Γ' h' => loop_ints I hs hn hc xs Γ' h'⟩
theorem rngD_cons (lo : Int) (n : Nat) : rngD lo (n + 1) = .int lo :: rngD (lo + 1) n := by
  unfold rngD
  rw [List.range_succ_eq_map, List.map_cons, List.map_map]
  congr 1
  · simp
  · apply List.map_congr_left; intro a _; simp; omega
/-- over a range: what holds before turn i -/
theorem loop_rng {src : Src} {mg : DTG} {mb : DTS} {K : DEnds} (hi : Int) (I : Int → Env → Prop) (hs : ∀ i Γ, I i Γ → srcL Γ src) (hn : ∀ Γ, I hi Γ → K.nx Γ)
    (hc : ∀ i Γ (N : Env → Prop), i < hi → I i Γ → (∀ Γ', I (i + 1) Γ' → N Γ') → mg (.int i) Γ fun Γ2 => mb { K with nx := N, ct := N, bk := K.nx } Γ2) : ∀ (n : Nat) (lo : Int) (Γ : Env), lo + n = hi → I lo Γ → loopM src mg mb K (rngD lo n) Γ
  | 0, lo, Γ, e, h => by
    have : lo = hi := by omega
    subst this
    exact ⟨hs _ _ h, hn _ h⟩
  | n + 1, lo, Γ, e, h => by
    rw [rngD_cons]
    exact ⟨hs _ _ h, hc lo Γ _ (by omega) h fun Γ' h' => loop_rng hi I hs hn hc n (lo + 1) Γ' (by omega) h'⟩
/-- enumerate -/
theorem loop_enum {src : Src} {mg : DTG} {mb : DTS} {K : DEnds} (I : Nat → List D → Env → Prop) (hs : ∀ i xs Γ, I i xs Γ → srcL Γ src) (hn : ∀ i Γ, I i [] Γ → K.nx Γ)
    (hc : ∀ i x xs Γ (N : Env → Prop), I i (x :: xs) Γ → (∀ Γ', I (i + 1) xs Γ' → N Γ') → mg (.tup [.int (i : Int), x]) Γ fun Γ2 => mb { K with nx := N, ct := N, bk := K.nx } Γ2) : ∀ (items : List D) (i : Nat) (Γ : Env), I i items Γ → loopM src mg mb K (enumD i items) Γ
  | [], i, Γ, h => by rw [enumD]; exact ⟨hs _ _ _ h, hn _ _ h⟩
  | x :: xs, i, Γ, h => by rw [enumD]; exact ⟨hs _ _ _ h, hc i x xs Γ _ h fun Γ' h' => loop_enum I hs hn hc xs (i + 1) Γ' h'⟩
def cik (acc : List D) (Γ : Env) (vs : List Nat) (N : List D → Env → Prop) (r : Res) (Γ4 : Env) : Prop := ∃ d, dat r = some d ∧ acc.length < 100000 ∧ N (acc ++ [d]) (restD Γ Γ4 vs)
def cfk (Γ : Env) (vs : List Nat) (N : Option D → Env → Prop) (r : Res) (Γ4 : Env) : Prop := ∃ d, dat r = some d ∧ N (some d) (restD Γ Γ4 vs)
theorem c_ik {acc : List D} {Γ Γ4 Γ' : Env} {vs : List Nat} {N : List D → Env → Prop} {r : Res} {d : D} (h1 : dat r = some d) (h2 : acc.length < 100000) (h3 : restD Γ Γ4 vs = Γ') (h : N (acc ++ [d]) Γ') : cik acc Γ vs N r Γ4 := ⟨_, h1, h2, by rw [h3]; exact h⟩
theorem c_fk {Γ Γ4 Γ' : Env} {vs : List Nat} {N : Option D → Env → Prop} {r : Res} {d : D} (h1 : dat r = some d) (h3 : restD Γ Γ4 vs = Γ') (h : N (some d) Γ') : cfk Γ vs N r Γ4 := ⟨_, h1, by rw [h3]; exact h⟩
/-- a comprehension that leaves the slots alone: by a function -/
theorem comp_fn {src : Src} {mg : DTG} {mt : DTT} {me : DTE} {vs : List Nat} {Q : List D → Env → Prop} {Γ : Env} (g : D → Option D) (hs : srcD Γ src) (ho : okOwn Γ vs = true) :
    ∀ (items acc : List D), (∀ x ∈ items, ∀ (N : Option D → Env → Prop), N (g x) Γ → mg x (wipeD Γ vs) fun Γ2 => mt Γ2 fun b Γ3 => if b = true then me Γ3 (cfk Γ vs N) else N none (restD Γ Γ3 vs)) → acc.length + items.length ≤ 100000 → Q (acc ++ items.filterMap g) Γ → compM src mg mt me vs Q items acc Γ
  | [], acc, _, _, hq => ⟨hs, by rw [List.filterMap_nil, List.append_nil] at hq; exact hq⟩
  | x :: xs, acc, h, hl, hq => by
    refine ⟨hs, ho, ?_⟩
    have hl' : acc.length + (xs.length + 1) ≤ 100000 := hl
    refine h x (List.mem_cons_self ..) (fun o Γ' => match o with
      | some d => acc.length < 100000 ∧ compM src mg mt me vs Q xs (acc ++ [d]) Γ'
      | none => compM src mg mt me vs Q xs acc Γ') ?_
    cases hg : g x with
    | some d =>
      rw [List.filterMap_cons_some hg] at hq
      refine ⟨by omega, comp_fn g hs ho xs (acc ++ [d]) (fun y hy => h y (List.mem_cons_of_mem _ hy)) (by rw [List.length_append, List.length_singleton]; omega) ?_⟩
      rw [List.append_assoc]; exact hq
    | none =>
      rw [List.filterMap_cons_none hg] at hq
      exact comp_fn g hs ho xs acc (fun y hy => h y (List.mem_cons_of_mem _ hy)) (by omega) hq
/-- a comprehension by an invariant -/
theorem comp_inv {src : Src} {mg : DTG} {mt : DTT} {me : DTE} {vs : List Nat} {Q : List D → Env → Prop} (I : List D → List D → Env → Prop) (hs : ∀ xs acc Γ, I xs acc Γ → srcD Γ src ∧ okOwn Γ vs = true) (hn : ∀ acc Γ, I [] acc Γ → Q acc Γ)
    (hc : ∀ x xs acc Γ (N : List D → Env → Prop), I (x :: xs) acc Γ → (∀ acc' Γ', I xs acc' Γ' → N acc' Γ') → mg x (wipeD Γ vs) fun Γ2 => mt Γ2 fun b Γ3 => if b = true then me Γ3 (cik acc Γ vs N) else N acc (restD Γ Γ3 vs)) :
    ∀ (items acc : List D) (Γ : Env), I items acc Γ → compM src mg mt me vs Q items acc Γ
  | [], acc, Γ, h => ⟨(hs _ _ _ h).1, hn _ _ h⟩
  | x :: xs, acc, Γ, h => ⟨(hs _ _ _ h).1, (hs _ _ _ h).2, hc x xs acc Γ (fun a g => compM src mg mt me vs Q xs a g) h fun a' Γ' h' => comp_inv I hs hn hc xs a' Γ' h'⟩
/-! ### the bag of a law -/
def BagD (b : D) : Prop := ∃ (big seed pos : Int) (cells : List Int), b = .lst [.int big, .int seed, .int pos, .lst (cells.map D.int)] ∧ 0 ≤ big ∧ 0 ≤ seed ∧ seed < 2147483647 ∧ 0 ≤ pos ∧ ∀ c ∈ cells, 0 ≤ c
/-- what a draw promises -/
def takeD : DSp := fun ds Q _ => ∃ b many, ds = [b, .int many] ∧ BagD b ∧ 0 < many ∧ many < 2 ^ 256 ∧ ∀ k b', 0 ≤ k → k < many → BagD b' → Q false (.int k) [b']
/-- what the making of the bag promises -/
def bagD : DSp := fun ds Q _ => ∃ ns : List Int, ds = [.scr (ns.map D.int)] ∧ ∀ b, BagD b → Q true b []
/-! ### one statement at a time -/
theorem atI_0 {α : Type} {a : α} {l : List α} : atI (a :: l) 0 = some a := by
  unfold atI ixN
  rw [if_pos (by decide), if_pos (by rw [List.length_cons]; omega)]
  rfl
theorem atI_1 {α : Type} {a b : α} {l : List α} : atI (a :: b :: l) 1 = some b := by
  unfold atI ixN
  rw [if_pos (by decide), if_pos (by rw [List.length_cons, List.length_cons]; omega)]
  rfl
theorem atI_2 {α : Type} {a b c : α} {l : List α} : atI (a :: b :: c :: l) 2 = some c := by
  unfold atI ixN
  rw [if_pos (by decide), if_pos (by rw [List.length_cons, List.length_cons, List.length_cons]; omega)]
  rfl
theorem atI_3 {α : Type} {a b c d : α} {l : List α} : atI (a :: b :: c :: d :: l) 3 = some d := by
  unfold atI ixN
  rw [if_pos (by decide), if_pos (by rw [List.length_cons, List.length_cons, List.length_cons, List.length_cons]; omega)]
  rfl
theorem ixN_0 {n : Nat} : ixN (n + 1) 0 = some 0 := by
  unfold ixN
  rw [if_pos (by decide), if_pos (by omega)]; rfl
theorem ixN_1 {n : Nat} : ixN (n + 2) 1 = some 1 := by
  unfold ixN
  rw [if_pos (by decide), if_pos (by omega)]; rfl
theorem ixN_2 {n : Nat} : ixN (n + 3) 2 = some 2 := by
  unfold ixN
  rw [if_pos (by decide), if_pos (by omega)]; rfl
theorem ixN_3 {n : Nat} : ixN (n + 4) 3 = some 3 := by
  unfold ixN
  rw [if_pos (by decide), if_pos (by omega)]; rfl
theorem mulOk_r {i j : Int} (h1 : -(2 ^ 64) < j) (h2 : j < 2 ^ 64) : MulOk i j := .inl (.inr ⟨h1, h2⟩)
theorem mulOk_l {i j : Int} (h1 : -(2 ^ 64) < i) (h2 : i < 2 ^ 64) : MulOk i j := .inl (.inl ⟨h1, h2⟩)
theorem divW_of {i j : Int} (h1 : 0 < j) (h2 : j < 2 ^ 256) : CDivW i j := by
  refine ⟨h1, ?_⟩
  have h3 : j.natAbs < 2 ^ 256 := by omega
  have h4 : j.natAbs ≠ 0 := by omega
  have h5 := (Nat.log2_lt h4 (k := 256)).mpr h3
  omega
/-! the ends, kept folded -/
def rtD (ms : List Md) (Qd : Bool → D → List D → Prop) : Res → Env → Prop := (endsD ms Qd).rt
theorem endsD_mk {ms : List Md} {Qd : Bool → D → List D → Prop} : endsD ms Qd = .mk (fun Γ => Qd false .non (iosD ms Γ)) (rtD ms Qd) (fun _ => False) (fun _ => False) := rfl
theorem cut {m n : DTS} {a : Env → Prop} {b : Res → Env → Prop} {c d : Env → Prop} {Γ : Env} (P : Env → Prop) (h1 : ∀ N : Env → Prop, (∀ Γ', P Γ' → N Γ') → m (.mk N b c d) Γ) (h2 : ∀ Γ', P Γ' → n (.mk a b c d) Γ') : mSeqS m n (.mk a b c d) Γ := h1 (n (.mk a b c d)) h2
end DL
/-! the data layer, part 16: one step of a reading at a time -/
namespace DL
open PySem L2
section
variable {Γ Γ' : Env} {Q : QE} {i : Nat} {d e : D} {ma mb mc : DTE} {mr : DTA} {f : D → D → (Res → Prop) → Prop} {g : List D → (Res → Prop) → Prop} {r r2 : Res} {rs : List Res} {ds : List D} {b : Bool}
theorem e_C (h : Q (.val d) Γ) : mC d Γ Q := h
def vq (s : Sl) (i : Nat) (Γ : Env) (Q : QE) : Prop := match s with
    | .sh d => Q (.val d) Γ
    | .ow _ => Q (.pl i) Γ
    | .io _ => Q (.pl i) Γ
    | .bo _ => Q (.pl i) Γ
    | _ => False
theorem e_V {s : Sl} (hs : Γ[i]? = some s) (h : vq s i Γ Q) : mVar i Γ Q := by
  unfold mVar
  rw [hs]
  cases s <;> exact h
theorem v_sh (h : Q (.val d) Γ) : vq (.sh d) i Γ Q := h
theorem v_ow (h : Q (.pl i) Γ) : vq (.ow d) i Γ Q := h
theorem v_io (h : Q (.pl i) Γ) : vq (.io d) i Γ Q := h
theorem v_bo (h : Q (.pl i) Γ) : vq (.bo d) i Γ Q := h
def op2 (f : D → D → (Res → Prop) → Prop) (Γ : Env) (ra rb : Res) (Q : QE) : Prop := ∃ a b, rd Γ ra = some a ∧ rd Γ rb = some b ∧ f a b fun r => Q r Γ
theorem e_op (h : ma Γ fun ra Γ1 => mb Γ1 fun rb Γ2 => op2 f Γ2 ra rb Q) : mOp f ma mb Γ Q := h
theorem e_op2 (h1 : rd Γ r = some d) (h2 : rd Γ r2 = some e) (h : f d e fun r => Q r Γ) : op2 f Γ r r2 Q := ⟨_, _, h1, h2, h⟩
def op1 (f : D → (Res → Prop) → Prop) (Γ : Env) (ra : Res) (Q : QE) : Prop := ∃ a, rd Γ ra = some a ∧ f a fun r => Q r Γ
theorem e_un {f : D → (Res → Prop) → Prop} (h : ma Γ fun ra Γ1 => op1 f Γ1 ra Q) : mUn f ma Γ Q := h
theorem e_op1 {f : D → (Res → Prop) → Prop} (h1 : rd Γ r = some d) (h : f d fun r => Q r Γ) : op1 f Γ r Q := ⟨_, h1, h⟩
def tst (r : Res) (Γ : Env) (Q : Bool → Env → Prop) : Prop := ∃ b, r = .val (.bl b) ∧ Q b Γ
theorem e_test {Q : Bool → Env → Prop} (h : ma Γ fun r Γ1 => tst r Γ1 Q) : mTest ma Γ Q := h
theorem e_tst {Q : Bool → Env → Prop} (h : Q b Γ) : tst (.val (.bl b)) Γ Q := ⟨_, rfl, h⟩
def andv (r : Res) (Γ : Env) (mb : DTE) (Q : QE) : Prop := ∃ b, r = .val (.bl b) ∧ if b = true then mb Γ Q else Q (.val (.bl false)) Γ
def orv (r : Res) (Γ : Env) (mb : DTE) (Q : QE) : Prop := ∃ b, r = .val (.bl b) ∧ if b = true then Q (.val (.bl true)) Γ else mb Γ Q
def notv (r : Res) (Γ : Env) (Q : QE) : Prop := ∃ b, r = .val (.bl b) ∧ Q (.val (.bl (!b))) Γ
theorem e_andV (h : ma Γ fun r Γ1 => andv r Γ1 mb Q) : mAndV ma mb Γ Q := h
theorem e_orV (h : ma Γ fun r Γ1 => orv r Γ1 mb Q) : mOrV ma mb Γ Q := h
theorem e_notV (h : ma Γ fun r Γ1 => notv r Γ1 Q) : mNotV ma Γ Q := h
theorem e_andv (h : if b = true then mb Γ Q else Q (.val (.bl false)) Γ) : andv (.val (.bl b)) Γ mb Q := ⟨_, rfl, h⟩
theorem e_orv (h : if b = true then Q (.val (.bl true)) Γ else mb Γ Q) : orv (.val (.bl b)) Γ mb Q := ⟨_, rfl, h⟩
theorem e_notv (h : Q (.val (.bl (!b))) Γ) : notv (.val (.bl b)) Γ Q := ⟨_, rfl, h⟩
theorem e_and {ma mb : DTT} {Q : Bool → Env → Prop} (h : ma Γ fun b Γ1 => if b = true then mb Γ1 Q else Q false Γ1) : mAnd ma mb Γ Q := h
theorem e_or {ma mb : DTT} {Q : Bool → Env → Prop} (h : ma Γ fun b Γ1 => if b = true then Q true Γ1 else mb Γ1 Q) : mOr ma mb Γ Q := h
theorem e_not {ma : DTT} {Q : Bool → Env → Prop} (h : ma Γ fun b Γ1 => Q (!b) Γ1) : mNot ma Γ Q := h
theorem e_if {mt : DTT} (h : mt Γ fun b Γ1 => if b = true then ma Γ1 Q else mb Γ1 Q) : mIf mt ma mb Γ Q := h
theorem e_ite {b : Bool} {x y : Prop} (h1 : b = true → x) (h2 : b = false → y) : if b = true then x else y := by
  cases b with
  | true => exact h1 rfl
  | false => exact h2 rfl
theorem e_Tt {x y : Prop} (h1 : x) : if true = true then x else y := h1
theorem e_Ff {x y : Prop} (h1 : y) : if false = true then x else y := h1
theorem e_nTt {x y : Prop} (h1 : y) : if (!true) = true then x else y := h1
theorem e_nFf {x y : Prop} (h1 : x) : if (!false) = true then x else y := h1
theorem e_T {b : Bool} {x y : Prop} (h : b = true) (h1 : x) : if b = true then x else y := by rw [if_pos h]; exact h1
theorem e_F {b : Bool} {x y : Prop} (h : b = false) (h1 : y) : if b = true then x else y := by subst h; exact h1
theorem e_dT {p x y : Prop} [Decidable p] (h : p) (h1 : x) : if decide p = true then x else y := e_T (decide_eq_true h) h1
theorem e_dF {p x y : Prop} [Decidable p] (h : ¬ p) (h1 : y) : if decide p = true then x else y := e_F (decide_eq_false h) h1
theorem e_nT {p x y : Prop} [Decidable p] (h : p) (h1 : y) : if (!decide p) = true then x else y := e_F (by rw [decide_eq_true h]; rfl) h1
theorem e_nF {p x y : Prop} [Decidable p] (h : ¬ p) (h1 : x) : if (!decide p) = true then x else y := e_T (by rw [decide_eq_false h]; rfl) h1
theorem e_dif {p x y : Prop} [Decidable p] (h1 : p → x) (h2 : ¬ p → y) : if decide p = true then x else y := e_ite (fun h => h1 (of_decide_eq_true h)) fun h => h2 (of_decide_eq_false h)
theorem e_nif {p x y : Prop} [Decidable p] (h1 : ¬ p → x) (h2 : p → y) : if (!decide p) = true then x else y := e_ite (fun h => h1 (by simpa using h)) fun h => h2 (by simpa using h)
theorem e_nil {Q : List Res → Env → Prop} (h : Q [] Γ) : mNil Γ Q := h
theorem e_cons {Q : List Res → Env → Prop} (h : ma Γ fun r Γ1 => mr Γ1 fun rs Γ2 => Q (r :: rs) Γ2) : mCons ma mr Γ Q := h
def cbk (f : List D → (Res → Prop) → Prop) (Γ : Env) (rs : List Res) (Q : QE) : Prop := ∃ ds, rds Γ rs = some ds ∧ f ds fun r => Q r Γ
theorem e_CB (h : mr Γ fun rs Γ1 => cbk g Γ1 rs Q) : mCB g mr Γ Q := h
theorem e_cb (h1 : rds Γ rs = some ds) (h : g ds fun r => Q r Γ) : cbk g Γ rs Q := ⟨_, h1, h⟩
def lsk (Γ : Env) (rs : List Res) (Q : QE) : Prop := ∃ ds, dats rs = some ds ∧ ds.length ≤ 100000 ∧ Q (.fr (.lst ds)) Γ
def tpk (Γ : Env) (rs : List Res) (Q : QE) : Prop := ∃ ds, dats rs = some ds ∧ ds.length ≤ 100000 ∧ Q (.val (.tup ds)) Γ
theorem e_Lst (h : mr Γ fun rs Γ1 => lsk Γ1 rs Q) : mLst mr Γ Q := h
theorem e_Tup (h : mr Γ fun rs Γ1 => tpk Γ1 rs Q) : mTup mr Γ Q := h
theorem e_lst (h1 : dats rs = some ds) (h2 : ds.length ≤ 100000) (h : Q (.fr (.lst ds)) Γ) : lsk Γ rs Q := ⟨_, h1, h2, h⟩
theorem e_tup (h1 : dats rs = some ds) (h2 : ds.length ≤ 100000) (h : Q (.val (.tup ds)) Γ) : tpk Γ rs Q := ⟨_, h1, h2, h⟩
def slk (f : D → Option Int → Option Int → (Res → Prop) → Prop) (Γ : Env) (r : Res) (lo hi : Option Int) (Q : QE) : Prop := ∃ d, rd Γ r = some d ∧ f d lo hi fun r => Q r Γ
theorem e_Sl {f : D → Option Int → Option Int → (Res → Prop) → Prop} {ml mh : Env → (Option Int → Env → Prop) → Prop} (h : ma Γ fun r Γ1 => ml Γ1 fun lo Γ2 => mh Γ2 fun hi Γ3 => slk f Γ3 r lo hi Q) : mSl f ma ml mh Γ Q := h
theorem e_sl {f : D → Option Int → Option Int → (Res → Prop) → Prop} {lo hi : Option Int} (h1 : rd Γ r = some d) (h : f d lo hi fun r => Q r Γ) : slk f Γ r lo hi Q := ⟨_, h1, h⟩
theorem e_noP {Q : Option Int → Env → Prop} (h : Q none Γ) : mNoP Γ Q := h
def prk (r : Res) (Γ : Env) (Q : Option Int → Env → Prop) : Prop := ∃ i, r = .val (.int i) ∧ Q (some i) Γ
theorem e_Part {Q : Option Int → Env → Prop} (h : ma Γ fun r Γ1 => prk r Γ1 Q) : mPart ma Γ Q := h
theorem e_part {Q : Option Int → Env → Prop} {i : Int} (h : Q (some i) Γ) : prk (.val (.int i)) Γ Q := ⟨_, rfl, h⟩
theorem i_slL {lo hi : Option Int} {Q : Res → Prop} (h : Q (.fr (.lst (DL.cutD ds lo hi)))) : slD (.lst ds) lo hi Q := h
theorem i_slC {lo hi : Option Int} {Q : Res → Prop} (h : Q (.fr (.lst (DL.cutD ds lo hi)))) : slD (.scr ds) lo hi Q := h
def rvk (r : Res) (Γ : Env) (Q : QE) : Prop := ∃ ds, rd Γ r = some (.lst ds) ∧ Q (.fr (.lst ds.reverse)) Γ
theorem e_RevL (h : ma Γ fun r Γ1 => rvk r Γ1 Q) : mRevL ma Γ Q := h
theorem e_revL (h1 : rd Γ r = some (.lst ds)) (h : Q (.fr (.lst ds.reverse)) Γ) : rvk r Γ Q := ⟨_, h1, h⟩
def isk (T : String) (r : Res) (Γ : Env) (Q : QE) : Prop := ∃ d, rd Γ r = some d ∧ (tyN d).isSome = true ∧ Q (.val (.bl (isTy T d))) Γ
theorem e_Isi {T : String} (h : ma Γ fun r Γ1 => isk T r Γ1 Q) : mIsi T ma Γ Q := h
theorem e_isi {T : String} (h1 : rd Γ r = some d) (h2 : (tyN d).isSome = true) (h3 : isTy T d = b) (h : Q (.val (.bl b)) Γ) : isk T r Γ Q := ⟨_, h1, h2, by rw [h3]; exact h⟩
theorem e_isiT {T : String} (h1 : rd Γ r = some d) (h2 : (tyN d).isSome = true) (h3 : isTy T d = true) (h : Q (.val (.bl true)) Γ) : isk T r Γ Q := e_isi h1 h2 h3 h
theorem e_isiF {T : String} (h1 : rd Γ r = some d) (h2 : (tyN d).isSome = true) (h3 : isTy T d = false) (h : Q (.val (.bl false)) Γ) : isk T r Γ Q := e_isi h1 h2 h3 h
/-! calls -/
def clk (ms : List Md) (sd : DSp) (Γ : Env) (rs : List Res) (Q : QE) : Prop := ∃ ds, argsD Γ ms rs = some ds ∧ apartB ms rs = true ∧ sd ds (fun b d ds' => ∃ Γ2, putsD (mPls ms rs) ds' Γ = some Γ2 ∧ Q (if b = true then .fr d else .val d) Γ2) noX
def ptk (is : List Nat) (Γ : Env) (Q : QE) : Bool → D → List D → Prop := fun b d ds' => ∃ Γ2, putsD is ds' Γ = some Γ2 ∧ Q (if b = true then .fr d else .val d) Γ2
theorem e_Call {ms : List Md} {sd : DSp} (h : mr Γ fun rs Γ1 => clk ms sd Γ1 rs Q) : mCall ms sd mr Γ Q := h
theorem e_call {ms : List Md} {sd : DSp} {is : List Nat} (h1 : argsD Γ ms rs = some ds) (h2 : apartB ms rs = true) (h3 : mPls ms rs = is) (h : sd ds (ptk is Γ Q) noX) : clk ms sd Γ rs Q := ⟨_, h1, h2, by subst h3; exact h⟩
theorem e_ptV {is : List Nat} {Γ1 : Env} (h1 : putsD is ds Γ = some Γ1) (h2 : Γ1 = Γ') (h : Q (.val d) Γ') : ptk is Γ Q false d ds := ⟨_, h1, by rw [h2]; exact h⟩
theorem e_ptF {is : List Nat} {Γ1 : Env} (h1 : putsD is ds Γ = some Γ1) (h2 : Γ1 = Γ') (h : Q (.fr d) Γ') : ptk is Γ Q true d ds := ⟨_, h1, by rw [h2]; exact h⟩
/-! list(range(..)) -/
def rgk (r : Res) (Γ : Env) (Q : Int → Int → Env → Prop) : Prop := ∃ n, r = .val (.int n) ∧ Q 0 n Γ
theorem e_Rg1 {Q : Int → Int → Env → Prop} (h : ma Γ fun r Γ1 => rgk r Γ1 Q) : mRg1 ma Γ Q := h
theorem e_rg1 {Q : Int → Int → Env → Prop} {n : Int} (h : Q 0 n Γ) : rgk (.val (.int n)) Γ Q := ⟨_, rfl, h⟩
def rgk2 (r r2 : Res) (Γ : Env) (Q : Int → Int → Env → Prop) : Prop := ∃ i j, r = .val (.int i) ∧ r2 = .val (.int j) ∧ Q i j Γ
theorem e_Rg2 {Q : Int → Int → Env → Prop} (h : ma Γ fun r Γ1 => mb Γ1 fun r2 Γ2 => rgk2 r r2 Γ2 Q) : mRg2 ma mb Γ Q := h
theorem e_rg2 {Q : Int → Int → Env → Prop} {i j : Int} (h : Q i j Γ) : rgk2 (.val (.int i)) (.val (.int j)) Γ Q := ⟨_, _, rfl, rfl, h⟩
def lrk (a b : Int) (Γ : Env) (Q : QE) : Prop := RgOk a b ∧ Q (.fr (.lst (rgD a b))) Γ
def trk (a b : Int) (Γ : Env) (Q : QE) : Prop := RgOk a b ∧ Q (.val (.tup (rgD a b))) Γ
theorem e_LRg {mg : Env → (Int → Int → Env → Prop) → Prop} (h : mg Γ fun a b Γ1 => lrk a b Γ1 Q) : mLRg mg Γ Q := h
theorem e_TRg {mg : Env → (Int → Int → Env → Prop) → Prop} (h : mg Γ fun a b Γ1 => trk a b Γ1 Q) : mTRg mg Γ Q := h
theorem e_lrg {a b : Int} (h1 : RgOk a b) (h : Q (.fr (.lst (rgD a b))) Γ) : lrk a b Γ Q := ⟨h1, h⟩
theorem e_trg {a b : Int} (h1 : RgOk a b) (h : Q (.val (.tup (rgD a b))) Γ) : trk a b Γ Q := ⟨h1, h⟩
/-! chains -/
def ch1 (f f' : Int → Int → Bool) (mc : DTE) (ra rb : Res) (Γ : Env) (Q : QE) : Prop := ∃ i j, ra = .val (.int i) ∧ rb = .val (.int j) ∧
  if f i j = true then mc Γ fun rc Γ3 => ∃ k, rc = .val (.int k) ∧ Q (.val (.bl (f' j k))) Γ3 else Q (.val (.bl false)) Γ
theorem e_Chain {f f' : Int → Int → Bool} (h : ma Γ fun ra Γ1 => mb Γ1 fun rb Γ2 => ch1 f f' mc ra rb Γ2 Q) : mChain f f' ma mb mc Γ Q := h
def ch2 (f' : Int → Int → Bool) (j : Int) (rc : Res) (Γ : Env) (Q : QE) : Prop := ∃ k, rc = .val (.int k) ∧ Q (.val (.bl (f' j k))) Γ
theorem e_ch1 {f f' : Int → Int → Bool} {i j : Int} (h : if f i j = true then mc Γ fun rc Γ3 => ch2 f' j rc Γ3 Q else Q (.val (.bl false)) Γ) : ch1 f f' mc (.val (.int i)) (.val (.int j)) Γ Q := ⟨_, _, rfl, rfl, h⟩
theorem e_ch2 {f' : Int → Int → Bool} {j k : Int} (h : Q (.val (.bl (f' j k))) Γ) : ch2 f' j (.val (.int k)) Γ Q := ⟨_, rfl, h⟩
/-! changes in place -/
def mu0 (f : D → List D → (D → Res → Prop) → Prop) (mr : DTA) (ro : Res) (Γ : Env) (Q : QE) : Prop := ∃ i, ro = .pl i ∧ (∃ ds, cont Γ[i]? = some (.lst ds)) ∧ mr Γ fun rs Γ2 => ∃ c ds, mcont Γ2[i]? = some c ∧ dats rs = some ds ∧ f c ds fun c' z => ∃ Γ3, setC Γ2 i c' = some Γ3 ∧ Q z Γ3
def mu1 (f : D → List D → (D → Res → Prop) → Prop) (i : Nat) (rs : List Res) (Γ : Env) (Q : QE) : Prop := ∃ c ds, mcont Γ[i]? = some c ∧ dats rs = some ds ∧ f c ds fun c' z => ∃ Γ3, setC Γ i c' = some Γ3 ∧ Q z Γ3
def stk (i : Nat) (Γ : Env) (Q : QE) : D → Res → Prop := fun c' z => ∃ Γ3, setC Γ i c' = some Γ3 ∧ Q z Γ3
theorem e_Mut {f : D → List D → (D → Res → Prop) → Prop} (h : ma Γ fun ro Γ1 => mu0 f mr ro Γ1 Q) : mMut f ma mr Γ Q := h
theorem e_mu0 {f : D → List D → (D → Res → Prop) → Prop} (h1 : cont Γ[i]? = some (.lst ds)) (h : mr Γ fun rs Γ2 => mu1 f i rs Γ2 Q) : mu0 f mr (.pl i) Γ Q := ⟨_, rfl, ⟨_, h1⟩, h⟩
theorem e_mu1 {f : D → List D → (D → Res → Prop) → Prop} {c : D} (h1 : mcont Γ[i]? = some c) (h2 : dats rs = some ds) (h : f c ds (stk i Γ Q)) : mu1 f i rs Γ Q := ⟨_, _, h1, h2, h⟩
theorem e_st {c : D} {z : Res} {Γ1 : Env} (h1 : setC Γ i c = some Γ1) (h2 : Γ1 = Γ') (h : Q z Γ') : stk i Γ Q c z := ⟨_, h1, by rw [h2]; exact h⟩
/-! operators -/
theorem i_add {i j : Int} {Q : Res → Prop} (h : Q (.val (.int (i + j)))) : addD (.int i) (.int j) Q := h
theorem i_addL {x y : List D} {Q : Res → Prop} (h1 : x.length + y.length ≤ 100000) (h : Q (.fr (.lst (x ++ y)))) : addD (.lst x) (.lst y) Q := ⟨h1, h⟩
theorem i_sub {i j : Int} {Q : Res → Prop} (h : Q (.val (.int (i - j)))) : subD (.int i) (.int j) Q := h
theorem i_mul {i j : Int} {Q : Res → Prop} (h1 : MulOk i j) (h : Q (.val (.int (i * j)))) : mulD (.int i) (.int j) Q := ⟨h1, h⟩
theorem i_div {i j : Int} {Q : Res → Prop} (h1 : CDivW i j) (h : Q (.val (.int (i / j)))) : fdivD (.int i) (.int j) Q := ⟨h1, h⟩
theorem i_mod {i j : Int} {Q : Res → Prop} (h1 : 0 < j) (h : Q (.val (.int (i % j)))) : modD (.int i) (.int j) Q := ⟨h1, h⟩
theorem i_pow {i j : Int} {Q : Res → Prop} (h1 : PowOk i j) (h : Q (.val (.int (i ^ j.toNat)))) : powD (.int i) (.int j) Q := ⟨h1, h⟩
theorem i_neg {i : Int} {Q : Res → Prop} (h : Q (.val (.int (-i)))) : negD (.int i) Q := h
theorem i_lt {i j : Int} {Q : Res → Prop} (h : Q (.val (.bl (decide (i < j))))) : ltD (.int i) (.int j) Q := h
theorem i_le {i j : Int} {Q : Res → Prop} (h : Q (.val (.bl (decide (i ≤ j))))) : leD (.int i) (.int j) Q := h
theorem i_gt {i j : Int} {Q : Res → Prop} (h : Q (.val (.bl (decide (j < i))))) : gtD (.int i) (.int j) Q := h
theorem i_ge {i j : Int} {Q : Res → Prop} (h : Q (.val (.bl (decide (j ≤ i))))) : geD (.int i) (.int j) Q := h
theorem i_eq {a c : D} {Q : Res → Prop} (h1 : okE a = true) (h2 : okE c = true) (h3 : eqv a c = b) (h : Q (.val (.bl b))) : eqD a c Q := ⟨h1, h2, by rw [h3]; exact h⟩
theorem i_eqI {i j : Int} {Q : Res → Prop} (h : Q (.val (.bl (decide (i = j))))) : eqD (.int i) (.int j) Q := ⟨okE_int _, okE_int _, by rw [eqv_int]; exact h⟩
theorem i_neI {i j : Int} {Q : Res → Prop} (h : Q (.val (.bl (!decide (i = j))))) : neD (.int i) (.int j) Q := ⟨okE_int _, okE_int _, by rw [eqv_int]; exact h⟩
theorem i_eqL {i j : List Int} {Q : Res → Prop} (h : Q (.val (.bl (decide (i = j))))) : eqD (.lst (i.map D.int)) (.lst (j.map D.int)) Q := ⟨okE_ints _, okE_ints _, by rw [eqv_ints]; exact h⟩
theorem i_neL {i j : List Int} {Q : Res → Prop} (h : Q (.val (.bl (!decide (i = j))))) : neD (.lst (i.map D.int)) (.lst (j.map D.int)) Q := ⟨okE_ints _, okE_ints _, by rw [eqv_ints]; exact h⟩
theorem i_eqB {i j : Bool} {Q : Res → Prop} (h : Q (.val (.bl (decide (i = j))))) : eqD (.bl i) (.bl j) Q := ⟨okE_bl _, okE_bl _, by rw [eqv_bl]; exact h⟩
theorem i_ne {a c : D} {Q : Res → Prop} (h1 : okE a = true) (h2 : okE c = true) (h3 : eqv a c = b) (h : Q (.val (.bl (!b)))) : neD a c Q := ⟨h1, h2, by rw [h3]; exact h⟩
theorem i_isB {i j : Bool} {Q : Res → Prop} (h : Q (.val (.bl (decide (i = j))))) : isD (.bl i) (.bl j) Q := h
theorem i_isnB {i j : Bool} {Q : Res → Prop} (h : Q (.val (.bl (!decide (i = j))))) : isNotD (.bl i) (.bl j) Q := h
theorem i_isnN {a : D} {Q : Res → Prop} (h1 : isNonD a = b) (h : Q (.val (.bl (!b)))) : isNotD a .non Q := by
  subst h1; cases a <;> exact h
theorem i_ix {i : Int} {Q : Res → Prop} (h1 : atI ds i = some d) (h : Q (.val d)) : ixD (.lst ds) (.int i) Q := ⟨_, h1, h⟩
theorem i_ixT {i : Int} {Q : Res → Prop} (h1 : atI ds i = some d) (h : Q (.val d)) : ixD (.tup ds) (.int i) Q := ⟨_, h1, h⟩
theorem i_len {Q : Res → Prop} (h : Q (.val (.int ds.length))) : lenD [.lst ds] Q := h
theorem i_lenT {Q : Res → Prop} (h : Q (.val (.int ds.length))) : lenD [.tup ds] Q := h
theorem i_lenC {Q : Res → Prop} (h : Q (.val (.int ds.length))) : lenD [.scr ds] Q := h
theorem i_lenI {l : List Int} {Q : Res → Prop} (h : Q (.val (.int l.length))) : lenD [.lst (l.map D.int)] Q := by
  show Q (.val (.int (List.map D.int l).length)); rw [List.length_map]; exact h
theorem i_lenTI {l : List Int} {Q : Res → Prop} (h : Q (.val (.int l.length))) : lenD [.tup (l.map D.int)] Q := by
  show Q (.val (.int (List.map D.int l).length)); rw [List.length_map]; exact h
theorem i_int {i : Int} {Q : Res → Prop} (h : Q (.val (.int i))) : DL.intD [.int i] Q := h
theorem i_intB {i : Bool} {Q : Res → Prop} (h : Q (.val (.int (if i then 1 else 0)))) : DL.intD [.bl i] Q := h
theorem i_abs {i : Int} {Q : Res → Prop} (h : Q (.val (.int (i.natAbs : Int)))) : absD [.int i] Q := h
theorem i_min {i j : Int} {Q : Res → Prop} (h : Q (.val (.int (min i j)))) : minD [.int i, .int j] Q := h
theorem i_max {i j : Int} {Q : Res → Prop} (h : Q (.val (.int (max i j)))) : maxD [.int i, .int j] Q := h
theorem i_sum {l : List Int} {Q : Res → Prop} (h : Q (.val (.int l.sum))) : sumD [.lst (l.map D.int)] Q := ⟨_, ints?_map l, h⟩
theorem i_sumT {l : List Int} {Q : Res → Prop} (h : Q (.val (.int l.sum))) : sumD [.tup (l.map D.int)] Q := ⟨_, ints?_map l, h⟩
theorem i_all {l : List Bool} {Q : Res → Prop} (h : Q (.val (.bl (l.all id)))) : allD [.lst (l.map D.bl)] Q := ⟨_, bls?_map l, h⟩
theorem i_any {l : List Bool} {Q : Res → Prop} (h : Q (.val (.bl (l.any id)))) : anyD [.lst (l.map D.bl)] Q := ⟨_, bls?_map l, h⟩
theorem i_list {Q : Res → Prop} (h : Q (.fr (.lst ds))) : listD [.lst ds] Q := h
theorem i_listT {Q : Res → Prop} (h : Q (.fr (.lst ds))) : listD [.tup ds] Q := h
theorem i_listC {Q : Res → Prop} (h : Q (.fr (.lst ds))) : listD [.scr ds] Q := h
theorem i_tuple {Q : Res → Prop} (h : Q (.val (.tup ds))) : tupleD [.lst ds] Q := h
theorem i_tupleT {Q : Res → Prop} (h : Q (.val (.tup ds))) : tupleD [.tup ds] Q := h
theorem i_divmod {i j : Int} {Q : Res → Prop} (h1 : CDiv i j) (h : Q (.val (.tup [.int (i / j), .int (i % j)]))) : divmodD [.int i, .int j] Q := ⟨h1, h⟩
theorem i_addI {i j : Int} {Q : Res → Prop} (h : Q (.val (.int (i + j)))) : addI (.int i) (.int j) Q := h
theorem i_subI {i j : Int} {Q : Res → Prop} (h : Q (.val (.int (i - j)))) : subI (.int i) (.int j) Q := h
theorem i_append {Q : D → Res → Prop} (h1 : ds.length < 100000) (h : Q (.lst (ds ++ [d])) (.val .non)) : appendD (.lst ds) [d] Q := ⟨h1, h⟩
theorem i_insert0 {Q : D → Res → Prop} (h1 : ds.length < 100000) (h : Q (.lst (d :: ds)) (.val .non)) : insertD (.lst ds) [.int 0, d] Q := ⟨⟨h1, by decide, by decide⟩, by simpa using h⟩
theorem i_reverse {Q : D → Res → Prop} (h : Q (.lst ds.reverse) (.val .non)) : reverseD (.lst ds) [] Q := h
theorem i_clear {Q : D → Res → Prop} (h : Q (.lst []) (.val .non)) : clearD (.lst ds) [] Q := h
end
section
variable {Γ Γ' : Env} {nx bk ct : Env → Prop} {rt : Res → Env → Prop} {i : Nat} {d : D} {ma me : DTE} {m n : DTS} {mt : DTT} {mg : DTG} {mi : DTI} {r : Res} {rs : List Res} {mp : DTP} {ts : List Tg} {c : D}
theorem s_next (h : nx Γ) : mNext (.mk nx rt bk ct) Γ := h
theorem s_brk (h : bk Γ) : mBrk (.mk nx rt bk ct) Γ := h
theorem s_cnt (h : ct Γ) : mCnt (.mk nx rt bk ct) Γ := h
theorem s_seq (h : m (.mk (n (.mk nx rt bk ct)) rt bk ct) Γ) : mSeqS m n (.mk nx rt bk ct) Γ := h
theorem s_drop (h : ma Γ fun _ Γ1 => nx Γ1) : mDrop ma (.mk nx rt bk ct) Γ := h
theorem s_ret (h : ma Γ rt) : mRet ma (.mk nx rt bk ct) Γ := h
theorem s_retN (h : rt (.val .non) Γ) : mRetN (.mk nx rt bk ct) Γ := h
theorem s_if (h : mt Γ fun b Γ1 => if b = true then m (.mk nx rt bk ct) Γ1 else n (.mk nx rt bk ct) Γ1) : mIfS mt m n (.mk nx rt bk ct) Γ := h
def sek (i : Nat) (r : Res) (Γ : Env) (nx : Env → Prop) : Prop := ∃ d, dat r = some d ∧ freeB Γ i = true ∧ nx (Γ.set i (.sh d))
def sok (i : Nat) (r : Res) (Γ : Env) (nx : Env → Prop) : Prop := ∃ d, r = .fr d ∧ freeB Γ i = true ∧ nx (Γ.set i (.ow d))
theorem s_Set (h : ma Γ fun r Γ1 => sek i r Γ1 nx) : mSet i ma (.mk nx rt bk ct) Γ := h
theorem s_SetO (h : ma Γ fun r Γ1 => sok i r Γ1 nx) : mSetO i ma (.mk nx rt bk ct) Γ := h
theorem s_set (h1 : dat r = some d) (h2 : freeB Γ i = true) (h3 : Γ.set i (.sh d) = Γ') (h : nx Γ') : sek i r Γ nx := ⟨_, h1, h2, by rw [h3]; exact h⟩
theorem s_setO (h2 : freeB Γ i = true) (h3 : Γ.set i (.ow d) = Γ') (h : nx Γ') : sok i (.fr d) Γ nx := ⟨_, rfl, h2, by rw [h3]; exact h⟩
theorem s_frz (h1 : frzD Γ i = some Γ') (h : m (.mk nx rt bk ct) Γ') : mFrz i m (.mk nx rt bk ct) Γ := ⟨_, h1, h⟩
def ask (mg : DTG) (r : Res) (Γ : Env) (nx : Env → Prop) : Prop := ∃ d, dat r = some d ∧ mg d Γ nx
theorem s_Asg (h : ma Γ fun r Γ1 => ask mg r Γ1 nx) : mAsg ma mg (.mk nx rt bk ct) Γ := h
theorem s_asg (h1 : dat r = some d) (h : mg d Γ nx) : ask mg r Γ nx := ⟨_, h1, h⟩
theorem g_name (h1 : freeB Γ i = true) (h2 : Γ.set i (.sh d) = Γ') (h : nx Γ') : mgName i d Γ nx := ⟨h1, by rw [h2]; exact h⟩
theorem g_tup {n : Nat} {ms : DTGs} {ds : List D} (h1 : ds.length = n) (h : ms ds Γ nx) : mgTup n ms (.tup ds) Γ nx := ⟨_, rfl, h1, h⟩
theorem g_cons {ms : DTGs} {ds : List D} (h : mg d Γ fun Γ1 => ms ds Γ1 nx) : mgCons mg ms (d :: ds) Γ nx := ⟨_, _, rfl, h⟩
theorem g_nil (h : nx Γ) : mgNil [] Γ nx := ⟨rfl, h⟩
def sbk (f : D → D → D → (D → Prop) → Prop) (d : D) (ro ri : Res) (Γ : Env) (nx : Env → Prop) : Prop := ∃ i c k, ro = .pl i ∧ cont Γ[i]? = some c ∧ rd Γ ri = some k ∧ f c k d fun c' => ∃ Γ3, setC Γ i c' = some Γ3 ∧ nx Γ3
def sck (i : Nat) (Γ : Env) (nx : Env → Prop) : D → Prop := fun c' => ∃ Γ3, setC Γ i c' = some Γ3 ∧ nx Γ3
theorem g_Sub {f : D → D → D → (D → Prop) → Prop} (h : ma Γ fun ro Γ1 => me Γ1 fun ri Γ2 => sbk f d ro ri Γ2 nx) : mgSub ma me f d Γ nx := h
theorem g_sub {f : D → D → D → (D → Prop) → Prop} {k : D} (h1 : cont Γ[i]? = some c) (h2 : rd Γ r = some k) (h : f c k d (sck i Γ nx)) : sbk f d (.pl i) r Γ nx := ⟨_, _, _, rfl, h1, h2, h⟩
theorem g_set {Γ1 : Env} (h1 : setC Γ i c = some Γ1) (h2 : Γ1 = Γ') (h : nx Γ') : sck i Γ nx c := ⟨_, h1, by rw [h2]; exact h⟩
theorem i_st {ds : List D} {k : Int} {j : Nat} {Q : D → Prop} (h1 : ixN ds.length k = some j) (h : Q (.lst (ds.set j d))) : stD (.lst ds) (.int k) d Q := ⟨_, h1, h⟩
def auk (i : Nat) (x : D) (f : D → D → (Res → Prop) → Prop) (r : Res) (Γ : Env) (nx : Env → Prop) : Prop := ∃ y, rd Γ r = some y ∧ f x y fun z => ∃ d, z = .val d ∧ freeB Γ i = true ∧ nx (Γ.set i (.sh d))
def avk (i : Nat) (Γ : Env) (nx : Env → Prop) : Res → Prop := fun z => ∃ d, z = .val d ∧ freeB Γ i = true ∧ nx (Γ.set i (.sh d))
theorem s_Aug {f : D → D → (Res → Prop) → Prop} {x : D} (h1 : Γ[i]? = some (.sh x)) (h : me Γ fun r Γ1 => auk i x f r Γ1 nx) : mAug i me f (.mk nx rt bk ct) Γ := ⟨_, h1, h⟩
theorem s_aug {f : D → D → (Res → Prop) → Prop} {x y : D} (h1 : rd Γ r = some y) (h : f x y (avk i Γ nx)) : auk i x f r Γ nx := ⟨_, h1, h⟩
theorem s_av (h1 : freeB Γ i = true) (h2 : Γ.set i (.sh d) = Γ') (h : nx Γ') : avk i Γ nx (.val d) := ⟨_, rfl, h1, by rw [h2]; exact h⟩
/-! x[k] op= e -/
def a1k (me : DTE) (f : D → D → (Res → Prop) → Prop) (ro ri : Res) (Γ : Env) (nx : Env → Prop) : Prop := ∃ i ds k x, ro = .pl i ∧ cont Γ[i]? = some (.lst ds) ∧ ri = .val (.int k) ∧ atI ds k = some x ∧ me Γ fun rv Γ3 => ∃ y, rd Γ3 rv = some y ∧ f x y fun z => ∃ d ds3 j, z = .val d ∧ cont Γ3[i]? = some (.lst ds3) ∧ ixN ds3.length k = some j ∧ ∃ Γ4, setC Γ3 i (.lst (ds3.set j d)) = some Γ4 ∧ nx Γ4
def a2k (i : Nat) (k : Int) (x : D) (f : D → D → (Res → Prop) → Prop) (rv : Res) (Γ : Env) (nx : Env → Prop) : Prop := ∃ y, rd Γ rv = some y ∧ f x y fun z => ∃ d ds3 j, z = .val d ∧ cont Γ[i]? = some (.lst ds3) ∧ ixN ds3.length k = some j ∧ ∃ Γ4, setC Γ i (.lst (ds3.set j d)) = some Γ4 ∧ nx Γ4
def a3k (i : Nat) (k : Int) (Γ : Env) (nx : Env → Prop) : Res → Prop := fun z => ∃ d ds3 j, z = .val d ∧ cont Γ[i]? = some (.lst ds3) ∧ ixN ds3.length k = some j ∧ ∃ Γ4, setC Γ i (.lst (ds3.set j d)) = some Γ4 ∧ nx Γ4
theorem s_AugS {mo mi : DTE} {f : D → D → (Res → Prop) → Prop} (h : mo Γ fun ro Γ1 => mi Γ1 fun ri Γ2 => a1k me f ro ri Γ2 nx) : mAugS mo mi me f (.mk nx rt bk ct) Γ := h
theorem s_a1 {f : D → D → (Res → Prop) → Prop} {ds : List D} {k : Int} {x : D} (h1 : cont Γ[i]? = some (.lst ds)) (h2 : atI ds k = some x) (h : me Γ fun rv Γ3 => a2k i k x f rv Γ3 nx) : a1k me f (.pl i) (.val (.int k)) Γ nx := ⟨_, _, _, _, rfl, h1, rfl, h2, h⟩
theorem s_a2 {f : D → D → (Res → Prop) → Prop} {k : Int} {x y : D} (h1 : rd Γ r = some y) (h : f x y (a3k i k Γ nx)) : a2k i k x f r Γ nx := ⟨_, h1, h⟩
theorem s_a3 {k : Int} {ds : List D} {j : Nat} (h1 : cont Γ[i]? = some (.lst ds)) (h2 : ixN ds.length k = some j) {Γ1 : Env} (h3 : setC Γ i (.lst (ds.set j d)) = some Γ1) (h4 : Γ1 = Γ') (h : nx Γ') : a3k i k Γ nx (.val d) := ⟨_, _, _, rfl, h1, h2, _, h3, by rw [h4]; exact h⟩
/-! a, b = .. -/
theorem s_Par (h : mp Γ fun rs Γ1 => mTgs ts rs Γ1 nx) : mPar mp ts (.mk nx rt bk ct) Γ := h
theorem s_Par3 {n : Nat} (h : mp Γ fun rs Γ1 => rs.length = n ∧ mTgs ts rs Γ1 nx) : mPar3 n mp ts (.mk nx rt bk ct) Γ := h
theorem p_nil {Q : List Res → Env → Prop} (h : Q [] Γ) : mPNil Γ Q := h
def pck (r : Res) (mr : DTP) (Γ : Env) (Q : List Res → Env → Prop) : Prop := isPl r = false ∧ mr Γ fun rs Γ2 => Q (r :: rs) Γ2
theorem p_Cons {mr : DTP} {Q : List Res → Env → Prop} (h : ma Γ fun r Γ1 => pck r mr Γ1 Q) : mPCons ma mr Γ Q := h
theorem p_cons {mr : DTP} {Q : List Res → Env → Prop} (h1 : isPl r = false) (h : mr Γ fun rs Γ2 => Q (r :: rs) Γ2) : pck r mr Γ Q := ⟨h1, h⟩
theorem t_nil (h : nx Γ) : mTgs [] [] Γ nx := by rw [mTgs]; exact h
theorem t_sh (h1 : dat r = some d) (h2 : freeB Γ i = true) (h3 : Γ.set i (.sh d) = Γ') (h : mTgs ts rs Γ' nx) : mTgs (.sh i :: ts) (r :: rs) Γ nx := by rw [mTgs]; exact ⟨_, h1, h2, by rw [h3]; exact h⟩
theorem t_ow (h2 : freeB Γ i = true) (h3 : Γ.set i (.ow d) = Γ') (h : mTgs ts rs Γ' nx) : mTgs (.ow i :: ts) (.fr d :: rs) Γ nx := by rw [mTgs]; exact ⟨_, rfl, h2, by rw [h3]; exact h⟩
theorem t_sub {mo mi : DTE} (h1 : dat r = some d) (h : mgSub mo mi stD d Γ fun Γ1 => mTgs ts rs Γ1 nx) : mTgs (.sub mo mi :: ts) (r :: rs) Γ nx := by rw [mTgs]; exact ⟨_, h1, h⟩
theorem t_gen {mg : DTG} (h1 : dat r = some d) (h : mg d Γ fun Γ1 => mTgs ts rs Γ1 nx) : mTgs (.gen mg :: ts) (r :: rs) Γ nx := by rw [mTgs]; exact ⟨_, h1, h⟩
/-! loops -/
theorem s_For (h : mi Γ fun src items Γ1 => loopM src mg m (.mk nx rt bk ct) items Γ1) : mFor mi mg m (.mk nx rt bk ct) Γ := h
def sqk (r : Res) (Γ : Env) (Q : Src → List D → Env → Prop) : Prop := ∃ d ds, rd Γ r = some d ∧ itemsOf d = some ds ∧ Q (srcOf d r) ds Γ
theorem w_Seq {Q : Src → List D → Env → Prop} (h : ma Γ fun r Γ1 => sqk r Γ1 Q) : mSeq ma Γ Q := h
theorem w_seq {Q : Src → List D → Env → Prop} {ds : List D} (h1 : rd Γ r = some d) (h2 : itemsOf d = some ds) (h : Q (srcOf d r) ds Γ) : sqk r Γ Q := ⟨_, _, h1, h2, h⟩
def r1k (rs : List Res) (Γ : Env) (Q : Src → List D → Env → Prop) : Prop := ∃ j : Int, rs = [.val (.int j)] ∧ (-(2 ^ 62) ≤ j ∧ j < 2 ^ 62) ∧ Q .no (rngD 0 j.toNat) Γ
theorem w_Rng1 {mr : DTA} {Q : Src → List D → Env → Prop} (h : mr Γ fun rs Γ1 => r1k rs Γ1 Q) : mRng1 mr Γ Q := h
theorem w_rng1 {Q : Src → List D → Env → Prop} {j : Int} (h1 : -(2 ^ 62) ≤ j ∧ j < 2 ^ 62) (h : Q .no (rngD 0 j.toNat) Γ) : r1k [.val (.int j)] Γ Q := ⟨_, rfl, h1, h⟩
def r2k (rs : List Res) (Γ : Env) (Q : Src → List D → Env → Prop) : Prop := ∃ i j : Int, rs = [.val (.int i), .val (.int j)] ∧ (-(2 ^ 62) ≤ i ∧ i < 2 ^ 62 ∧ -(2 ^ 62) ≤ j ∧ j < 2 ^ 62) ∧ Q .no (rngD i (j - i).toNat) Γ
theorem w_Rng2 {mr : DTA} {Q : Src → List D → Env → Prop} (h : mr Γ fun rs Γ1 => r2k rs Γ1 Q) : mRng2 mr Γ Q := h
theorem w_rng2 {Q : Src → List D → Env → Prop} {i j : Int} (h1 : -(2 ^ 62) ≤ i ∧ i < 2 ^ 62 ∧ -(2 ^ 62) ≤ j ∧ j < 2 ^ 62) (h : Q .no (rngD i (j - i).toNat) Γ) : r2k [.val (.int i), .val (.int j)] Γ Q := ⟨_, _, rfl, h1, h⟩
def enk (r : Res) (Γ : Env) (Q : Src → List D → Env → Prop) : Prop := ∃ d ds, rd Γ r = some d ∧ itemsOf d = some ds ∧ Q (srcOf d r) (enumD 0 ds) Γ
theorem w_Enum {Q : Src → List D → Env → Prop} (h : ma Γ fun r Γ1 => enk r Γ1 Q) : mEnum ma Γ Q := h
theorem w_enum {Q : Src → List D → Env → Prop} {ds : List D} (h1 : rd Γ r = some d) (h2 : itemsOf d = some ds) (h : Q (srcOf d r) (enumD 0 ds) Γ) : enk r Γ Q := ⟨_, _, h1, h2, h⟩
theorem w_Comp {Q : QE} {vs : List Nat} (h : mi Γ fun src items Γ1 => compM src mg mt me vs (fun acc Γ2 => Q (.fr (.lst acc)) Γ2) items [] Γ1) : mComp mi mg mt me vs Γ Q := h
theorem e_yes {Q : Bool → Env → Prop} (h : Q true Γ) : mYes Γ Q := h
/-! the ends -/
theorem d_val {ms : List Md} {Qd : Bool → D → List D → Prop} {ds : List D} (h1 : iosD ms Γ = ds) (h : Qd false d ds) : rtD ms Qd (.val d) Γ := by subst h1; exact h
theorem d_fr {ms : List Md} {Qd : Bool → D → List D → Prop} {ds : List D} (h1 : iosD ms Γ = ds) (h : Qd true d ds) : rtD ms Qd (.fr d) Γ := by subst h1; exact h
theorem d_pl {ms : List Md} {Qd : Bool → D → List D → Prop} {ds : List D} (h0 : Γ[i]? = some (.ow d)) (h1 : iosD ms Γ = ds) (h : Qd true d ds) : rtD ms Qd (.pl i) Γ := by subst h1; exact ⟨_, h0, h⟩
end
/-! slots that may be stored to -/
def fr (s : Sl) : Bool := freeB [s] 0
theorem i_take {b : D} {many : Int} {Q : Bool → D → List D → Prop} {E : EdT} (hb : BagD b) (h1 : 0 < many) (h2 : many < 2 ^ 256) (h : ∀ k b', 0 ≤ k → k < many → BagD b' → Q false (.int k) [b']) : takeD [b, .int many] Q E := ⟨b, many, rfl, hb, h1, h2, h⟩
theorem strOk_app {a b : Str} (h1 : PyData.strOk a = true) (h2 : PyData.strOk b = true) : PyData.strOk (a ++ b) = true := by
  unfold PyData.strOk at *
  rw [show (a ++ b).cps = a.cps ++ b.cps from rfl, Array.all_append, h1, h2]
  rfl
theorem strOk_of (s : String) : PyData.strOk (Str.ofString s) = true := by
  rw [Str.ofString_eq_toList]
  unfold PyData.strOk
  rw [Array.all_eq_true']
  intro x hx
  simp only [List.mem_toArray, List.mem_map] at hx
  obtain ⟨c, _, rfl⟩ := hx
  have h := c.valid
  have : c.toNat < 1114112 := by
    have h : c.val.toNat.isValidChar := h
    show c.val.toNat < 1114112
    unfold Nat.isValidChar at h
    omega
  exact decide_eq_true this
theorem strOk_textFrom : ∀ (ts : List Str) (k : Nat) (acc : Str), (∀ t ∈ ts, PyData.strOk t = true) → PyData.strOk acc = true → PyData.strOk (textFrom k acc ts) = true
  | [], _, acc, _, h => h
  | t :: ts, k, acc, h, h2 => strOk_textFrom ts (k + 1) _ (fun x hx => h x (List.mem_cons_of_mem _ hx)) (strOk_app (strOk_app h2 (by split <;> exact strOk_of _)) (h t (List.mem_cons_self ..)))
theorem i_eqS {x : Str} {Q : Res → Prop} (h1 : okE (.str x) = true) (h : Q (.val (.bl true))) : eqD (.str x) (.str x) Q := ⟨h1, h1, by rw [eqv_ssS, beq_self_eq_true]; exact h⟩
theorem cut1 (z : D) (r : List D) : DL.cutD (z :: r) (some 1) none = r := by
  simp [DL.cutD, HT.sIx]
theorem i_sl1 {d : D} {ds : List D} {Q : Res → Prop} (h : Q (.fr (.lst ds))) : slD (.lst (d :: ds)) (some 1) none Q := by
  show Q (.fr (.lst (DL.cutD (d :: ds) (some 1) none)))
  rw [cut1]; exact h
end DL
/-! the data layer, part 17: own classes: the rules on values -/
namespace DL
open PySem PySem.Spec PyProof.Rows L2
section
variable {X : Cx} {e : Expr} {st : Stmt} {sts : List Stmt}
def tNeverS : TS := fun _ _ _ => False
theorem ps_never : PS X st tNeverS := ⟨fun _ _ _ _ _ _ h => h.elim⟩
def mNeverS : DTS := fun _ _ => False
variable {C : Ctx}
theorem ds_never : DS X C st tNeverS mNeverS := ⟨ps_never, fun _ _ _ _ _ _ _ h _ => h.elim⟩
end
section
variable {X : Cx} {k : Nat} {f C p g : Addr} {fd : FuncData} {ps : List Str} {sp : Sp} {dvs : List V} {ds : List Value} {x m : Str} {pos apos p1 : Pos} {o e : Expr} {es : List Expr} {t : TA} {ta : TE} {E : XK}
theorem under_guards {A : Around} {C : Addr} {us : List Value} {kw : List (Str × Value)} : (A.under (.builtin "type.__call__" ⟨.ref C :: us, kw⟩)).guards = A.guards := by
  first
  | rfl
  | simp [Around.under, Code.weight, Code.isCreation, Code.isGuard, Code.isCaller, Code.frames, Code.isFrame, guardIds]
theorem run_makeG {pins : List (Addr × Obj)} {σ : L2.St} {H : Hp} {s : Shared} {Q : VK} {us : List Value} {vs : List V} (M : Mk X.K C f) (F : FnG X.prog X.w X.K X.mg X.base k f fd ps sp) (hg : X.A.guards = some []) (hr : Room (k + 1) X.A) (hb : Binds X.K fd ps ds) (hd : Vals dvs ds)
    (hx : Passes (L2.CX X.prog X.w) X E) (I : Inv X pins σ H s) (r : Vals vs us)
    (h : ∀ x dx, H x = none → H dx = none → dx ≠ x → sp (.ref x :: (vs ++ dvs)) (upd (upd H dx (.own x)) x (.ins C dx [])) (fun v H2 => v = .non ∧ Q (.ref x) H2) E) :
    wpAny (model X.prog X.w) X.A (call (.ref C) us) (EP X pins σ Q) X.xe s := by
  have hq := h (s.heap.objs.size + 1) s.heap.objs.size (I.hok.fresh (Nat.le_succ _)) (I.hok.fresh (Nat.le_refl _)) (Nat.ne_of_lt (Nat.lt_succ_self _))
  have I2 := Inv.made (C := C) I
  have r2 : Vals (V.ref (s.heap.objs.size + 1) :: (vs ++ dvs)) (Value.ref (s.heap.objs.size + 1) :: (us ++ ds)) := .cons rfl (r.append hd)
  have hl : (Value.ref (s.heap.objs.size + 1) :: us ++ ds).length = ps.length := by
    have e := r2.length
    rw [F.len _ _ _ _ hq] at e
    exact e.symm
  refine wpAny_call (make_map (f := f) I.kIn M.makes M.init (beq_iff_eq.mp M.fn) (codeAny_mono (F.go _ (under_guards.trans hg) (hr.make C us []) X.stack _ _ ⟨Value.ref (s.heap.objs.size + 1) :: us, []⟩ (Value.ref (s.heap.objs.size + 1) :: (us ++ ds)) _ _ E
    (I2.env0.make C us []) (hb _ (Value.ref (s.heap.objs.size + 1) :: us) I2.kIn hl) r2 hq) fun r s' hq' => ?_))
  cases r with
  | error e => exact hx pins σ _ _ e s' I2 hq'
  | ok fl =>
    cases fl with
    | ret u =>
      obtain ⟨v, H', I3, rv, ev, q3⟩ := I2.after hq'
      subst ev
      exact ⟨rv, ⟨V.ref (s.heap.objs.size + 1), H', I3, rfl, q3⟩⟩
    | next => exact False.elim hq'
    | brk => exact False.elim hq'
    | cont => exact False.elim hq'
/-- C(..) -/
theorem pe_makeG (M : Mk X.K C f) (F : FnG X.prog X.w X.K X.mg X.base k f fd ps sp) (hgu : X.A.guards = some []) (hr : Room (k + 1) X.A) (hg : Gl X x) (hm : X.mg x = some (.ref C)) (hb : Binds X.K fd ps ds) (hd : Vals dvs ds) (hx : Passes (L2.CX X.prog X.w) X E)
    (ha : PA X (e :: es) t) (hdb : (x == ("__debug__" : Str)) = false := by decide) (he : starEach (e :: es) X.env = (false, eval e X.env) :: starEach es X.env := by rfl) (hpl : (backTo pos (starEach es X.env)).any (·.1) = false := by rfl) :
    PE X (.Call (.Name x p1) (e :: es) [] pos) (tMake C sp dvs E t) := by
  refine ⟨fun pins s σ H Q I h => ?_⟩
  refine wpAny_Call_Name_kw (ld_glob I hg hm ?_ hdb)
  refine PySem.W.callWith_K (h₀ := X.base) I.ok.mod.kin M.kp (thn (ha.run pos pins s σ H _ I h) fun us s1 ⟨vs, H1, I1, r, q⟩ => ⟨I1.kIn, ?_⟩) he hpl
  exact run_makeG M F hgu hr hb hd hx I1 r q
/-- o.m(..) -/
theorem pe_methG {pl : Sem Bool} (he : PE X o ta) (c : Cls X.K C) (hm : Meth X.K C m f) (F : FnG X.prog X.w X.K X.mg X.base k f fd ps sp) (hg : X.A.guards = some []) (hr : Room k X.A) (hb : Binds X.K fd ps ds) (hd : Vals dvs ds) (hx : Passes (L2.CX X.prog X.w) X E) (ha : PA X (e :: es) t)
    (hst : starEach (e :: es) X.env = (false, eval e X.env) :: starEach es X.env := by rfl) (hpl : (backTo pos (starEach es X.env)).any (·.1) = false := by rfl)
    (ht : eval (.Call (.Attribute o m apos) (e :: es) [] pos) X.env = (do
      let ov ← eval o X.env
      standAt apos.atName
      let (f, first) ← holding [ov] (getMethod ov m pl)
      callWith pos f first (backTo pos (starEach (e :: es) X.env)) (backToKw pos (keywordEach [] X.env))) := by rfl) :
    PE X (.Call (.Attribute o m apos) (e :: es) [] pos) (tMeth C m sp dvs E ta t) := by
  refine ⟨fun pins s σ H Q I h => ?_⟩
  refine PySem.W.methodCall_KW (pl := pl) (thn (he.run pins s σ H _ I h) fun u s1 ⟨x, H1, I1, rx, a, dx, fs, ex, ea, l, q⟩ => ?_) ht
  subst ex
  obtain rfl : u = Value.ref a := rx
  refine getmeth_ok I1 ea c hm l ?_
  refine PySem.W.callWith_K (first := [.ref a]) (h₀ := X.base) I.ok.mod.kin hm.kp (thn (ha.run pos pins s1 σ H1 _ I1 q) fun us s2 ⟨vs, H2, I2, r, q2⟩ => ⟨I2.kIn, ?_⟩) hst hpl
  exact run_g (us := .ref a :: us) (vs := .ref a :: vs) F hg hr hb hd hx I2 (.cons rfl r) q2
/-- o.f, a property -/
theorem pe_propG {f : Str} (he : PE X e ta) (c : Cls X.K C) (hp : PropOf X.K C f p g) (F : FnG X.prog X.w X.K X.mg X.base k g fd ps sp) (hg : X.A.guards = some []) (hr : Room (k + 1) X.A) (hb : Binds X.K fd ps ds) (hd : Vals dvs ds) (hx : Passes (L2.CX X.prog X.w) X.nox E)
    (hab : attributeBase e f X.env (eval e X.env) = eval e X.env := by rfl) : PE X (.Attribute e f pos) (tProp C sp dvs E ta) := by
  refine ⟨fun pins s σ H Q I h => ?_⟩
  refine attr_of hab (thn (he.run pins s σ H _ I h) fun u s1 ⟨x, H1, I1, rx, a, dx, fs, ex, ea, q⟩ => ?_)
  subst ex
  obtain rfl : u = Value.ref a := rx
  obtain ⟨mA, O, _, _, _, _⟩ := ins_get I1.hok ea
  obtain ⟨od, J, _⟩ := O.look
  obtain ⟨rest, hrec⟩ := hp.rec_
  have I2 := I1.tok (s1.toks + 1)
  have hl : ([Value.ref a] ++ ds).length = ps.length := by
    rw [← F.len _ _ _ _ q]
    show ds.length + 1 = dvs.length + 1
    rw [hd.length]
  have hc : (PySem.W.clsIn X.K C).isSome = true := by
    obtain ⟨cd, hc, _⟩ := PySem.W.any_some c.hd
    rw [hc]
    rfl
  refine PySem.W.get_bind I1.kIn J (PySem.W.plainGet_of (c.get f)).1 (PySem.W.findObj_data hc hp.at_ hp.get hp.tak) (PySem.W.plainGet_of (c.get f)).2 (wpAny_call (PySem.W.prop_get (s := { s1 with toks := s1.toks + 1 }) I1.kIn hrec ?_))
  refine codeAny_mono (F.go X.A.in1 hg hr.in1 X.stack { s1 with toks := s1.toks + 1 } H1 ⟨[.ref a], []⟩ (.ref a :: ds) (.ref a :: dvs) Q E I2.env0.in1 (hb _ [.ref a] I2.kIn hl) (.cons rfl hd) q) fun r s' hq => ?_
  cases r with
  | error er => exact False.elim (hx pins σ H1 { s1 with toks := s1.toks + 1 } er s' (I2.wish _) hq)
  | ok fl =>
    cases fl with
    | ret u =>
      obtain ⟨v, H', I3, rv, q3⟩ := I2.after hq
      show wpAny _ _ (handedOut u) _ _ _
      rw [PySem.W.handedOut_of (handed_of rv)]
      exact wpAny_pure ⟨v, H', I3, rv, q3⟩
    | next => exact False.elim hq
    | brk => exact False.elim hq
    | cont => exact False.elim hq
end
end DL
/-! the data layer, part 18: own classes over data -/
namespace DL
open PySem PySem.Spec PyProof.Rows L2
/-! ### fields -/
def fldD : List Str → List D → Str → Option D
  | n :: ns, d :: ds, f => if (f == n) = true then some d else fldD ns ds f
  | _, _, _ => none
def putN (f : Str) : List Str → List Str
  | [] => [f]
  | n :: ns => if n = f then n :: ns else n :: putN f ns
def putDs (f : Str) (d : D) : List Str → List D → List D
  | n :: ns, e :: ds => if n = f then d :: ds else e :: putDs f d ns ds
  | _, ds => ds ++ [d]
section
variable {K : Fg} {H : Hp}
theorem fld_at {f : Str} : ∀ {fs : List (Str × V)} {ds : List D} {d : D}, Reps K H (fs.map (·.2)) ds → fldD (fs.map (·.1)) ds f = some d → ∃ v, fs.lookup f = some v ∧ Rep K H v d
  | [], _, _, r, e => by cases r; cases e
  | (n, v) :: fs, _, d, .cons (d := d') (ds := ds) h r, e => by
    rw [List.map_cons, fldD] at e
    by_cases c : (f == n) = true
    · rw [if_pos c] at e
      cases e
      exact ⟨v, by rw [List.lookup, c], h⟩
    · rw [if_neg c] at e
      obtain ⟨w, h1, h2⟩ := fld_at r e
      have c' : (f == n) = false := by simpa using c
      exact ⟨w, by rw [List.lookup, c']; exact h1, h2⟩
theorem put_at {f : Str} {y : V} {d : D} (hy : Rep K H y d) : ∀ {fs : List (Str × V)} {ds : List D}, Reps K H (fs.map (·.2)) ds → (putF f y fs).map (·.1) = putN f (fs.map (·.1)) ∧ Reps K H ((putF f y fs).map (·.2)) (putDs f d (fs.map (·.1)) ds)
  | [], _, .nil => ⟨rfl, .cons hy .nil⟩
  | (n, v) :: fs, _, .cons (d := d') (ds := ds) h r => by
    unfold putF
    rw [List.map_cons, putN, putDs]
    by_cases c : n = f
    · rw [if_pos c, if_pos c, if_pos c]
      exact ⟨rfl, .cons hy r⟩
    · rw [if_neg c, if_neg c, if_neg c]
      obtain ⟨h1, h2⟩ := put_at hy r
      exact ⟨by rw [List.map_cons, h1], .cons h h2⟩
theorem look_none {m : Str} : ∀ {fs : List (Str × V)}, m ∉ fs.map (·.1) → fs.lookup m = none
  | [], _ => rfl
  | (n, v) :: fs, h => by
    rw [List.map_cons, List.mem_cons, not_or] at h
    have c : (m == n) = false := by simpa using h.1
    rw [List.lookup, c]
    exact look_none h.2
end
/-! ### the readings -/
def mFld (C : Addr) (f : Str) (mo : DTE) : DTE := fun Γ Q => mo Γ fun r Γ1 => ∃ ns ds d, rd Γ1 r = some (.obj C ns ds) ∧ fldD ns ds f = some d ∧ Q (.val d) Γ1
def mSetF (C : Addr) (f : Str) (mo me : DTE) : DTS := fun D Γ => me Γ fun r Γ1 => mo Γ1 fun ro Γ2 => ∃ d i ns ds, dat r = some d ∧ ro = .pl i ∧ cont Γ2[i]? = some (.obj C ns ds) ∧ ns.length < 1000 ∧ ∃ Γ3, setC Γ2 i (.obj C (putN f ns) (putDs f d ns ds)) = some Γ3 ∧ D.nx Γ3
/-- the receiver and the arguments -/
def mSelf (C : Addr) (m : Str) (mo : DTE) (ma : DTA) : DTA := fun Γ Q => mo Γ fun r Γ1 => (∃ ns ds, rd Γ1 r = some (.obj C ns ds) ∧ m ∉ ns) ∧ ma Γ1 fun rs Γ2 => Q (r :: rs) Γ2
def mSelf1 (C : Addr) (mo : DTE) : DTA := fun Γ Q => mo Γ fun r Γ1 => (∃ ns ds, rd Γ1 r = some (.obj C ns ds)) ∧ Q [r] Γ1
def mCls (C : Addr) (ma : DTA) : DTA := fun Γ Q => ma Γ fun rs Γ1 => Q (.val (.cls C) :: rs) Γ1
def mMake (C : Addr) (ms : List Md) (sd : DSp) (ma : DTA) : DTE := fun Γ Q => ma Γ fun rs Γ1 => ∃ ds, argsD Γ1 ms rs = some ds ∧ apartB ms rs = true ∧
  sd (.obj C [] [] :: ds) (fun b d ds' => d = .non ∧ ∃ d0 r0 Γ2, ds' = d0 :: r0 ∧ putsD (mPls ms rs) r0 Γ1 = some Γ2 ∧ Q (.fr d0) Γ2) noX
def mMakeL (i : Nat) (C : Addr) (ms : List Md) (sd : DSp) (ma : DTA) : DTE := fun Γ Q => Γ[i]? = some (.sh (.cls C)) ∧ mMake C ms sd ma Γ Q
/-- isinstance(x, C) -/
def isO (C : Addr) : D → Option Bool
  | .obj C' _ _ => if C' = C then some true else none
  | .cls _ => none
  | .xcl _ _ => none
  | .dtl _ => none
  | .pnK _ _ => none
  | .pnT _ _ => none
  | _ => some false
def mIsO (C : Addr) (ma : DTE) : DTE := fun Γ Q => ma Γ fun r Γ1 => ∃ d b, rd Γ1 r = some d ∧ isO C d = some b ∧ Q (.val (.bl b)) Γ1
/-- x == y by the class's own == -/
def eqk (F : Bool → Bool) (Γ2 : Env) (Q : QE) : Bool → D → List D → Prop := fun b d ds' => ∃ Γ3, putsD [] ds' Γ2 = some Γ3 ∧ (Γ3 = Γ2 ∧ ∃ z, (if b = true then Res.fr d else .val d) = .val (.bl z) ∧ Q (.val (.bl (F z))) Γ2)
theorem eqk_in {F : Bool → Bool} {Γ2 : Env} {Q : QE} {z : Bool} (h : Q (.val (.bl (F z))) Γ2) : eqk F Γ2 Q false (.bl z) [] := ⟨Γ2, rfl, rfl, z, rfl, h⟩
def mEqO (C : Addr) (sd : DSp) (F : Bool → Bool) (ma mb : DTE) : DTE := fun Γ Q => ma Γ fun ra Γ1 => mb Γ1 fun rb Γ2 => ∃ ns ds ns' ds', dat ra = some (.obj C ns ds) ∧ dat rb = some (.obj C ns' ds') ∧
  sd [.obj C ns ds, .obj C ns' ds'] (eqk F Γ2 Q) noX
section
variable {C : Ctx} {C0 : Addr} {f m : Str} {to ta tb te : TE} {mo ma mb me : DTE} {t : TA} {mt : DTA} {ms : List Md} {sd : DSp} {E : XK}
theorem sim_fld {K : Fg} (hK : K = C.K) (cl : Cls K C0) (na : NoAttr K C0 f) (ho : SimE C to mo) : SimE C (tFld K to f) (mFld C0 f mo) := fun Γ O σ H Qd Q R h k => by
  refine ho Γ O σ H _ _ R h fun r Γ1 x H1 R1 e1 q1 => ?_
  obtain ⟨ns, ds, d, h1, h2, q⟩ := q1
  obtain ⟨a, dx, fs, rfl, hH, rfl, rr⟩ := (R1.pend.b2 R1.rel h1).obj
  obtain ⟨v, hv, rv⟩ := fld_at rr h2
  exact ⟨a, C0, dx, fs, v, rfl, hH, cl, na, hv, k (.val d) Γ1 v H1 ⟨R1.rel, rv⟩ (.val e1.1) q⟩
theorem sim_setF {K : Fg} (hK : K = C.K) (cl : Cls K C0) (na : NoAttr K C0 f) (ho : SimE C to mo) (he : SimE C te me) : SimS C (sFld K to te f) (mSetF C0 f mo me) := fun Γ O σ H D Dd R h L => by
  refine he Γ O σ H _ _ R h fun r Γ1 y H1 R1 e1 q1 => ?_
  refine ho Γ1 O σ H1 _ _ R1.rel q1 fun ro Γ2 x H2 R2 e2 q2 => ?_
  obtain ⟨d, i, ns, ds, hd, rfl, hc, hl, Γ3, hs, q⟩ := q2
  obtain ⟨l, o, rfl, hl2, ho2⟩ := place_at R2.rel hs R2.2 hc
  cases ho2 with
  | obj hn rr =>
    rename_i dx fs
    subst hn
    have ry : Rep C.K (hide O H2) y d := (R1.pend.mono e2.1).dat hd
    obtain ⟨p1, p2⟩ := put_at (f := f) ry rr
    obtain ⟨R3, e3⟩ := set_relO (o := .ins C0 dx (putF f y fs)) R2.rel hs R2.2 (.obj p1 p2)
    exact ⟨l, C0, dx, fs, rfl, hl2, cl, na, by rw [List.length_map] at hl; exact hl, L.nx Γ3 O σ _ R3 q⟩
theorem sim_meth (ho : SimE C to mo) (ha : SimA C t mt) : SimE C (tMeth C0 m (spD C.K ms sd) [] E to t) (mCall ms sd (mSelf C0 m mo mt)) := fun Γ O σ H Qd Q R h k => by
  refine ho Γ O σ H _ _ R h fun r Γ1 x H1 R1 e1 q1 => ?_
  obtain ⟨⟨ns, ds0, h1, h2⟩, q1⟩ := q1
  obtain ⟨a, dx, fs, rfl, hH, rfl, rr⟩ := (R1.pend.b2 R1.rel h1).obj
  refine ⟨a, dx, fs, rfl, hH, look_none h2, ?_⟩
  refine ha Γ1 O σ H1 _ _ R1.rel q1 fun rs Γ2 vs H2 R2 p2 e2 q2 => ?_
  obtain ⟨ds, hd, hap, hsd⟩ := q2
  rw [List.append_nil]
  exact call_core (rs := r :: rs) R2 (.cons (R1.pend.mono e2) p2) hd hap hsd (fun r' Γ' v H' r1 se q => k r' Γ' v H' r1 (.after (L2.Same.trans e1.1 e2) se) q) fun _ _ _ _ _ _ _ _ _ _ z => z.elim
theorem sim_prop (ho : SimE C to mo) : SimE C (tProp C0 (spD C.K ms sd) [] E to) (mCall ms sd (mSelf1 C0 mo)) := fun Γ O σ H Qd Q R h k => by
  refine ho Γ O σ H _ _ R h fun r Γ1 x H1 R1 e1 q1 => ?_
  obtain ⟨⟨ns, ds0, h1⟩, ds, hd, hap, hsd⟩ := q1
  obtain ⟨a, dx, fs, rfl, hH, rfl, rr⟩ := (R1.pend.b2 R1.rel h1).obj
  refine ⟨a, dx, fs, rfl, hH, ?_⟩
  exact call_core (rs := [r]) R1.rel (.cons R1.pend .nil) hd hap hsd (fun r' Γ' v H' r1 se q => k r' Γ' v H' r1 (.after e1.1 se) q) fun _ _ _ _ _ _ _ _ _ _ z => z.elim
/-- the arguments at a heap with one new owned object more -/
theorem ArgsOk.lift {K : Fg} {O O' : List Addr} {H H' : Hp} {x : Addr} (e : Same (hide O H) (hide O' H')) (kp : ∀ l o, H l = some o → H' l = some o) (sb : ∀ a ∈ O, a ∈ O') (hx : H x = none) {Ms : List Addr} {ms : List Md} {vs : List V} {ds : List D} (A : ArgsOk K O H Ms ms vs ds) : ArgsOk K O' H' (x :: Ms) ms vs ds := by
  induction A with
  | nil => exact .nil
  | S h _ ih => exact .S (h.mono e) ih
  | B h _ ih =>
    refine .B ?_ ih
    rcases h with h | ⟨l, o, h1, h2, h3, h4⟩
    · exact .inl (h.mono e)
    · exact .inr ⟨l, o, h1, kp l o h2, fun z => (List.mem_cons.mp z).elim (fun z => by rw [z, hx] at h2; cases h2) h3, h4.mono e⟩
  | M h1 h2 h3 _ ih => exact .M (sb _ h1) (kp _ _ h2) (h3.mono e) ih
theorem sim_make (ha : SimA C t mt) : SimE C (tMake C0 (spD C.K (.M :: ms) sd) [] E t) (mMake C0 ms sd mt) := fun Γ O σ H Qd Q R h k => by
  refine ha Γ O σ H _ _ R h fun rs Γ1 vs H1 R1 p1 e1 q1 => ?_
  obtain ⟨ds, hd, hap, hsd⟩ := q1
  intro x dx hx hdx hne
  rw [List.append_nil]
  have hx' : (upd H1 dx (.own x)) x = none := by rw [upd_ne (Ne.symm hne)]; exact hx
  have R1' : RelO C Γ1 O σ (upd H1 dx (.own x)) := R1.alloc hdx
  have R2 : RelO C Γ1 (x :: O) σ (upd (upd H1 dx (.own x)) x (.ins C0 dx [])) := R1'.allocO hx'
  have eS : Same (hide O H1) (hide (x :: O) (upd (upd H1 dx (.own x)) x (.ins C0 dx []))) := L2.Same.trans (hide_new hdx) (hide_newO hx')
  have kp : ∀ l o, H1 l = some o → (upd (upd H1 dx (.own x)) x (.ins C0 dx [])) l = some o := fun l o e => by
    rw [upd_ne (ne_of_none e hx), upd_ne (ne_of_none e hdx)]; exact e
  unfold apartB at hap
  rw [Bool.and_eq_true] at hap
  have nd : (mPls ms rs).Nodup := of_decide_eq_true hap.1
  have hb : ∀ i ∈ bPls ms rs, i ∉ mPls ms rs := fun i hi => of_decide_eq_true (List.all_eq_true.mp hap.2 i hi)
  obtain ⟨hc, hmu⟩ := chg_of R1 p1 hd
  have hargs := (args_of R1 hc hmu p1 hd hb).lift eS kp (fun a ha => List.mem_cons_of_mem _ ha) hx
  have ndA := chg_nodup R1 hc hmu nd
  have xO : x ∉ O := R1.notin hx
  have xA : x ∉ mAddrs ms vs := fun z => by
    obtain ⟨i, hi, e⟩ := hc.at z
    exact xO (R1.mutIn ⟨hmu i hi, e⟩)
  refine ⟨x :: O, .obj C0 [] [] :: ds, _, noX, .M List.mem_cons_self upd_same (.obj rfl .nil) hargs, R2.al, List.nodup_cons.mpr ⟨xA, ndA⟩, hsd, fun v H' O' b d ds' post hms hres hq => ?_, fun _ _ _ _ _ _ _ _ _ _ _ z => z.elim⟩
  obtain ⟨rfl, d0, r0, Γ2, rfl, hput, hq⟩ := hq
  have hv : v = .non := by
    cases b with
    | true => obtain ⟨_, _, _, _, _, _, z⟩ := hres; cases z
    | false => have z : Rep C.K (hide O' H') v .non := hres; cases z; rfl
  refine ⟨hv, ?_⟩
  cases hms with
  | M hox hoo hms =>
    rename_i o'
    have Rx := R2.updFree (p := x) (o := o') List.mem_cons_self (R1.fresh0 hx) (fun i m => xO (R1.mutIn m)) fun q hq z => xO (z ▸ (R1.uu q hq).2.1)
    have Af : Aft C Γ1 (x :: O) σ (upd (upd (upd H1 dx (.own x)) x (.ins C0 dx [])) x o') (mAddrs ms vs) O' H' := by
      refine ⟨post.sub, fun a ha => ?_, post.al, fun a o e ha => ?_⟩
      · by_cases hax : a = x
        · exact .inl (hax ▸ List.mem_cons_self)
        · rcases post.new a ha with z | z
          · exact .inl z
          · exact .inr (by rw [upd_ne hax]; exact z)
      · by_cases hax : a = x
        · subst hax
          rw [upd_same] at e
          cases e
          exact hox
        · rw [upd_ne hax] at e
          exact post.fr a o e fun z => (List.mem_cons.mp z).elim hax ha
    obtain ⟨R3, e3⟩ := rel_after Rx hc nd hmu hput Af (now_of hms)
    rw [hide_mut List.mem_cons_self] at e3
    have mO : ∀ i a, MutAt Γ2 σ i a → a ∈ O := fun i a m => R1.mutIn (mutAt_put hput nd hmu m)
    have uO : ∀ q ∈ C.U, q.1 ∈ O := fun q hq => (R1.uu q hq).2.1
    obtain ⟨R4, e4⟩ := R3.shrink (O := O) (fun a ha => post.sub a (List.mem_cons_of_mem _ ha)) mO uO R1.oo
    obtain ⟨R5, e5⟩ := R3.shrink (O := x :: O) post.sub (fun i a m => List.mem_cons_of_mem _ (mO i a m)) (fun q hq => List.mem_cons_of_mem _ (uO q hq)) fun a ha => List.mem_cons_of_mem _ (R1.oo a ha)
    exact k (.fr d0) Γ2 _ H' ⟨R4, x, o', rfl, hox, xO, R1.fresh0 hx, hoo.mono e5, R5⟩ (.fr (L2.Same.trans e1 (L2.Same.trans eS (L2.Same.trans e3 e5)))) hq
end
end DL
/-! the data layer, part 19: own classes: the rules for the printed derivations -/
namespace DL
open PySem PySem.Spec PyProof.Rows L2
section
variable {X : Cx} {C : Ctx} {C0 : Addr} {k : Nat} {g p : Addr} {fd : FuncData} {ps : List Str} {ms : List Md} {sd : DSp} {ta tb to te : TE} {ma mb mo me : DTE} {a b o e : Expr} {es : List Expr} {t : TA} {mt : DTA} {pos apos p1 p2 : Pos} {f m x : Str} {st : Stmt}
theorem de_fld (cl : Cls X.K C0) (na : NoAttr X.K C0 f) (h : DE X C e te me) (hb : attributeBase e f X.env (eval e X.env) = eval e X.env := by rfl) {K0 : Fg} (hK0 : X.K = K0 := by rfl) (hK : K0 = C.K := by rfl) : DE X C (.Attribute e f pos) (tFld K0 te f) (mFld C0 f me) := by
  subst hK0
  exact ⟨pe_fld h.pe hb, sim_fld hK cl na h.sim⟩
theorem ds_fld (cl : Cls X.K C0) (na : NoAttr X.K C0 f) (ho : DE X C o to mo) (he : DE X C e te me) (hs : swapsWith e (some (.Attribute o f apos)) pos.line X.env = pure false := by rfl) {K0 : Fg} (hK0 : X.K = K0 := by rfl) (hK : K0 = C.K := by rfl) :
    DS X C (.Assign [.Attribute o f apos] e pos) (sFld K0 to te f) (mSetF C0 f mo me) := by
  subst hK0
  exact ⟨ps_fld ho.pe he.pe hs, sim_setF hK cl na ho.sim he.sim⟩
theorem de_meth {pl : Sem Bool} (c : Cls X.K C0) (hm : Meth X.K C0 m g) (F : FnG X.prog X.w X.K X.mg X.base k g fd ps (spD X.K ms sd)) (hg : X.A.guards = some []) (hr : Room k X.A) (hb : Binds X.K fd ps []) (ho : DE X C o to mo) (ha : DA X C (e :: es) t mt) {K0 : Fg} (hK0 : X.K = K0 := by rfl) (hK : K0 = C.K := by rfl)
    (hst : starEach (e :: es) X.env = (false, eval e X.env) :: starEach es X.env := by rfl) (hpl : (backTo pos (starEach es X.env)).any (·.1) = false := by rfl)
    (ht : eval (.Call (.Attribute o m apos) (e :: es) [] pos) X.env = (do
      let ov ← eval o X.env
      standAt apos.atName
      let (f, first) ← holding [ov] (getMethod ov m pl)
      callWith pos f first (backTo pos (starEach (e :: es) X.env)) (backToKw pos (keywordEach [] X.env))) := by first | rfl | exact mcall_of (abase_call rfl) fun _ => rfl) :
    DE X C (.Call (.Attribute o m apos) (e :: es) [] pos) (tMeth C0 m (spD K0 ms sd) [] E0 to t) (mCall ms sd (mSelf C0 m mo mt)) := by
  subst hK0
  exact ⟨pe_methG ho.pe c hm F hg hr hb .nil passL ha.pa hst hpl ht, by rw [hK]; exact sim_meth ho.sim ha.sim⟩
theorem de_prop (c : Cls X.K C0) (hp : PropOf X.K C0 f p g) (F : FnG X.prog X.w X.K X.mg X.base k g fd ps (spD X.K ms sd)) (hg : X.A.guards = some []) (hr : Room (k + 1) X.A) (hb : Binds X.K fd ps []) (ho : DE X C o to mo) {K0 : Fg} (hK0 : X.K = K0 := by rfl) (hK : K0 = C.K := by rfl)
    (hab : attributeBase o f X.env (eval o X.env) = eval o X.env := by rfl) : DE X C (.Attribute o f pos) (tProp C0 (spD K0 ms sd) [] E0 to) (mCall ms sd (mSelf1 C0 mo)) := by
  subst hK0
  exact ⟨pe_propG ho.pe c hp F hg hr hb .nil passL hab, by rw [hK]; exact sim_prop ho.sim⟩
theorem de_make (M : Mk X.K C0 g) (F : FnG X.prog X.w X.K X.mg X.base k g fd ps (spD X.K (.M :: ms) sd)) (hg : X.A.guards = some []) (hr : Room (k + 1) X.A) (hgl : Gl X x) (hm : X.mg x = some (.ref C0)) (hb : Binds X.K fd ps []) (ha : DA X C (e :: es) t mt) {K0 : Fg} (hK0 : X.K = K0 := by rfl) (hK : K0 = C.K := by rfl)
    (hdb : (x == ("__debug__" : Str)) = false := by decide) (he : starEach (e :: es) X.env = (false, eval e X.env) :: starEach es X.env := by rfl) (hpl : (backTo pos (starEach es X.env)).any (·.1) = false := by rfl) :
    DE X C (.Call (.Name x p1) (e :: es) [] pos) (tMake C0 (spD K0 (.M :: ms) sd) [] E0 t) (mMake C0 ms sd mt) := by
  subst hK0
  exact ⟨pe_makeG M F hg hr hgl hm hb .nil passL ha.pa hdb he hpl, by rw [hK]; exact sim_make ha.sim⟩
end
end DL
/-! the data layer, part 20: one step of a reading at a time: own classes -/
namespace DL
open PySem PySem.Spec PyProof.Rows L2
section
variable {Γ Γ' : Env} {Q : QE} {i : Nat} {d e : D} {ma mb mo me : DTE} {mr : DTA} {r r2 : Res} {rs : List Res} {ns : List Str} {ds : List D} {b : Bool} {C : Addr} {f m : Str}
def fdk (C : Addr) (f : Str) (r : Res) (Γ : Env) (Q : QE) : Prop := ∃ ns ds d, rd Γ r = some (.obj C ns ds) ∧ fldD ns ds f = some d ∧ Q (.val d) Γ
theorem e_Fld (h : mo Γ fun r Γ1 => fdk C f r Γ1 Q) : mFld C f mo Γ Q := h
theorem e_fld (h1 : rd Γ r = some (.obj C ns ds)) (h2 : fldD ns ds f = some d) (h : Q (.val d) Γ) : fdk C f r Γ Q := ⟨_, _, _, h1, h2, h⟩
theorem fld_1 : fldD (f :: ns) (d :: ds) f = some d := by rw [fldD, beq_self_eq_true, if_pos rfl]
theorem fld_2 {g : Str} (h : (f == g) = false) : fldD (g :: f :: ns) (e :: d :: ds) f = some d := by rw [fldD, h, if_neg Bool.false_ne_true, fld_1]
def sfk (C : Addr) (f : Str) (r ro : Res) (Γ : Env) (nx : Env → Prop) : Prop := ∃ d i ns ds, dat r = some d ∧ ro = .pl i ∧ cont Γ[i]? = some (.obj C ns ds) ∧ ns.length < 1000 ∧ ∃ Γ3, setC Γ i (.obj C (putN f ns) (putDs f d ns ds)) = some Γ3 ∧ nx Γ3
theorem s_SetF {nx bk ct : Env → Prop} {rt : Res → Env → Prop} (h : me Γ fun r Γ1 => mo Γ1 fun ro Γ2 => sfk C f r ro Γ2 nx) : mSetF C f mo me (.mk nx rt bk ct) Γ := h
theorem s_setF {nx : Env → Prop} {ns2 : List Str} {ds2 : List D} {Γ1 : Env} (h1 : dat r = some d) (h2 : cont Γ[i]? = some (.obj C ns ds)) (h3 : ns.length < 1000) (h4 : putN f ns = ns2) (h5 : putDs f d ns ds = ds2) (h6 : setC Γ i (.obj C ns2 ds2) = some Γ1) (h7 : Γ1 = Γ') (h : nx Γ') : sfk C f r (.pl i) Γ nx :=
  ⟨d, i, ns, ds, h1, rfl, h2, h3, Γ1, by rw [h4, h5]; exact h6, by rw [h7]; exact h⟩
def slfk (C : Addr) (m : Str) (r : Res) (ma : DTA) (Γ : Env) (Q : List Res → Env → Prop) : Prop := (∃ ns ds, rd Γ r = some (.obj C ns ds) ∧ m ∉ ns) ∧ ma Γ fun rs Γ2 => Q (r :: rs) Γ2
theorem e_Self {Q : List Res → Env → Prop} (h : mo Γ fun r Γ1 => slfk C m r mr Γ1 Q) : mSelf C m mo mr Γ Q := h
theorem e_self {Q : List Res → Env → Prop} (h1 : rd Γ r = some (.obj C ns ds)) (h2 : m ∉ ns) (h : mr Γ fun rs Γ2 => Q (r :: rs) Γ2) : slfk C m r mr Γ Q := ⟨⟨_, _, h1, h2⟩, h⟩
def slf1 (C : Addr) (r : Res) (Γ : Env) (Q : List Res → Env → Prop) : Prop := (∃ ns ds, rd Γ r = some (.obj C ns ds)) ∧ Q [r] Γ
theorem e_Self1 {Q : List Res → Env → Prop} (h : mo Γ fun r Γ1 => slf1 C r Γ1 Q) : mSelf1 C mo Γ Q := h
theorem e_self1 {Q : List Res → Env → Prop} (h1 : rd Γ r = some (.obj C ns ds)) (h : Q [r] Γ) : slf1 C r Γ Q := ⟨⟨_, _, h1⟩, h⟩
theorem e_Cls {Q : List Res → Env → Prop} (h : mr Γ fun rs Γ1 => Q (.val (.cls C) :: rs) Γ1) : mCls C mr Γ Q := h
def mkk (C : Addr) (ms : List Md) (sd : DSp) (Γ1 : Env) (rs : List Res) (Q : QE) : Prop := ∃ ds, argsD Γ1 ms rs = some ds ∧ apartB ms rs = true ∧ sd (.obj C [] [] :: ds) (fun b d ds' => d = .non ∧ ∃ d0 r0 Γ2, ds' = d0 :: r0 ∧ putsD (mPls ms rs) r0 Γ1 = some Γ2 ∧ Q (.fr d0) Γ2) noX
def mak (is : List Nat) (Γ1 : Env) (Q : QE) : Bool → D → List D → Prop := fun b d ds' => d = .non ∧ ∃ d0 r0 Γ2, ds' = d0 :: r0 ∧ putsD is r0 Γ1 = some Γ2 ∧ Q (.fr d0) Γ2
theorem e_Make {ms : List Md} {sd : DSp} (h : mr Γ fun rs Γ1 => mkk C ms sd Γ1 rs Q) : mMake C ms sd mr Γ Q := h
theorem e_MakeL {ms : List Md} {sd : DSp} (h1 : Γ[i]? = some (.sh (.cls C))) (h : mr Γ fun rs Γ1 => mkk C ms sd Γ1 rs Q) : mMakeL i C ms sd mr Γ Q := ⟨h1, h⟩
theorem e_make {ms : List Md} {sd : DSp} {is : List Nat} (h1 : argsD Γ ms rs = some ds) (h2 : apartB ms rs = true) (h3 : mPls ms rs = is) (h : sd (.obj C [] [] :: ds) (mak is Γ Q) noX) : mkk C ms sd Γ rs Q := ⟨_, h1, h2, by subst h3; exact h⟩
theorem e_mak {is : List Nat} {Γ1 : Env} (h1 : putsD is ds Γ = some Γ1) (h2 : Γ1 = Γ') (h : Q (.fr d) Γ') : mak is Γ Q b .non (d :: ds) := ⟨rfl, d, ds, Γ1, rfl, h1, by rw [h2]; exact h⟩
def iok (C : Addr) (r : Res) (Γ : Env) (Q : QE) : Prop := ∃ d b, rd Γ r = some d ∧ isO C d = some b ∧ Q (.val (.bl b)) Γ
theorem e_IsO (h : ma Γ fun r Γ1 => iok C r Γ1 Q) : mIsO C ma Γ Q := h
theorem e_isO (h1 : rd Γ r = some d) (h2 : isO C d = some b) (h : Q (.val (.bl b)) Γ) : iok C r Γ Q := ⟨_, _, h1, h2, h⟩
theorem isO_self : isO C (.obj C ns ds) = some true := by show (if C = C then some true else none) = some true; rw [if_pos rfl]
def eok (C : Addr) (sd : DSp) (F : Bool → Bool) (ra rb : Res) (Γ2 : Env) (Q : QE) : Prop := ∃ ns ds ns' ds', dat ra = some (.obj C ns ds) ∧ dat rb = some (.obj C ns' ds') ∧ sd [.obj C ns ds, .obj C ns' ds'] (eqk F Γ2 Q) noX
theorem e_EqO {sd : DSp} {F : Bool → Bool} (h : ma Γ fun ra Γ1 => mb Γ1 fun rb Γ2 => eok C sd F ra rb Γ2 Q) : mEqO C sd F ma mb Γ Q := h
theorem e_eqO {sd : DSp} {F : Bool → Bool} {ns' : List Str} {ds' : List D} (h1 : dat r = some (.obj C ns ds)) (h2 : dat r2 = some (.obj C ns' ds')) (h : sd [.obj C ns ds, .obj C ns' ds'] (eqk F Γ Q) noX) : eok C sd F r r2 Γ Q := ⟨_, _, _, _, h1, h2, h⟩
theorem e_eqk {F : Bool → Bool} {z : Bool} (h : Q (.val (.bl (F z))) Γ) : eqk F Γ Q false (.bl z) [] := eqk_in h
end
theorem i_powN {i j : Int} {n : Nat} {Q : Res → Prop} (hj : j.toNat = n) (h1 : PowOk i j) (h : Q (.val (.int (i ^ n)))) : powD (.int i) (.int j) Q := ⟨h1, by rw [hj]; exact h⟩
theorem i_eqT {i j : List Int} {Q : Res → Prop} (h : Q (.val (.bl (decide (i = j))))) : eqD (.tup (i.map D.int)) (.tup (j.map D.int)) Q := ⟨okE_tints _, okE_tints _, by rw [eqv_tints]; exact h⟩
theorem i_neT {i j : List Int} {Q : Res → Prop} (h : Q (.val (.bl (!decide (i = j))))) : neD (.tup (i.map D.int)) (.tup (j.map D.int)) Q := ⟨okE_tints _, okE_tints _, by rw [eqv_tints]; exact h⟩
theorem i_neB {i j : Bool} {Q : Res → Prop} (h : Q (.val (.bl (!decide (i = j))))) : neD (.bl i) (.bl j) Q := ⟨okE_bl _, okE_bl _, by rw [eqv_bl]; exact h⟩
/-- a ring of these ranks -/
abbrev ringD (C : Addr) (l : List Int) : D := .obj C ["rank_list"] [.lst (l.map D.int)]
theorem rgD_nat (n : Nat) : rgD 0 (n : Int) = ((List.range n).map fun i => ((i : Nat) : Int)).map D.int := by
  unfold rgD
  rw [List.map_map]
  simp
end DL
namespace DL
open PySem PySem.Spec PyProof.Rows L2
/-! data that are equal to themselves and print well -/
mutual
def niceD (k : Nat) : D → Bool
  | .int i => decide (i.natAbs < 2 ^ k)
  | .bl _ => true
  | .non => true
  | .lst ds => nicesD k ds
  | .tup ds => nicesD k ds
  | .str x => PyData.strOk x
  | _ => false
def nicesD (k : Nat) : List D → Bool
  | [] => true
  | d :: ds => niceD k d && nicesD k ds
end
mutual
def wtD (k : Nat) : D → Nat
  | .int _ => k + 1
  | .lst ds => 4 + wtsD k ds
  | .tup ds => 4 + wtsD k ds
  | .str x => 10 * x.length + 5
  | _ => 5
def wtsD (k : Nat) : List D → Nat
  | [] => 0
  | d :: ds => wtD k d + 2 + wtsD k ds
end
theorem log2_nice {i : Int} {k : Nat} (hk : 0 < k) (h : i.natAbs < 2 ^ k) : i.natAbs.log2 < k := by
  by_cases h0 : i.natAbs = 0
  · rw [h0, show Nat.log2 0 = 0 from by decide]; exact hk
  · exact (Nat.log2_lt h0).mpr h
theorem join_len (sep : Str) : ∀ ts : List Str, (Str.join sep ts).length ≤ (ts.map (·.length)).sum + sep.length * ts.length
  | [] => Nat.zero_le _
  | [x] => by
    show x.length ≤ x.length + 0 + sep.length * 1
    omega
  | x :: y :: r => by
    have h := join_len sep (y :: r)
    show (x ++ sep ++ Str.join sep (y :: r)).length ≤ _
    rw [strLen_append, strLen_append]
    simp only [List.map_cons, List.sum_cons, List.length_cons] at h ⊢
    rw [Nat.mul_add sep.length (r.length + 1) 1]
    omega
theorem strOk_join (sep : String) : ∀ ts : List Str, (∀ t ∈ ts, PyData.strOk t = true) → PyData.strOk (Str.join sep ts) = true
  | [], _ => by unfold Str.join; decide +kernel
  | [x], h => h x (List.mem_cons_self ..)
  | x :: y :: r, h => by
    show PyData.strOk (x ++ sep ++ Str.join sep (y :: r)) = true
    exact strOk_app (strOk_app (h x (List.mem_cons_self ..)) (strOk_of _)) (strOk_join sep (y :: r) fun t ht => h t (List.mem_cons_of_mem _ ht))
theorem strOk_mem {x : Str} : PyData.strOk x = true ↔ ∀ c ∈ x.cps.toList, c < 1114112 := by
  unfold PyData.strOk
  rw [Array.all_eq_true']
  constructor
  · intro h c hc
    exact of_decide_eq_true (h c (Array.mem_toList_iff.mp hc))
  · intro h c hc
    exact decide_eq_true (h c (Array.mem_toList_iff.mpr hc))
theorem char_lt (c : Char) : c.toNat < 1114112 := by
  have h : c.val.toNat.isValidChar := c.valid
  show c.val.toNat < 1114112
  unfold Nat.isValidChar at h
  omega
theorem reprChar_lt (q c : Nat) (hc : c < 1114112) : ∀ d ∈ Builtin.Str.reprChar q c, d < 1114112 := by
  have hx : ∀ w : Nat, ∀ d ∈ List.replicate (w - ((Nat.toDigits 16 c).map Char.toNat).length) 48 ++ (Nat.toDigits 16 c).map Char.toNat, d < 1114112 := fun w d hd => by
    rcases List.mem_append.mp hd with h | h
    · rw [(List.mem_replicate.mp h).2]; decide
    · obtain ⟨ch, _, rfl⟩ := List.mem_map.mp h
      exact char_lt ch
  unfold Builtin.Str.reprChar
  intro d hd
  simp only at hd
  repeat' split at hd
  all_goals simp only [List.mem_append, List.mem_cons, List.not_mem_nil, or_false] at hd
  all_goals first | omega | (rcases hd with hd | hd <;> first | omega | exact hx 2 d (List.mem_append.mpr hd) | exact hx 4 d (List.mem_append.mpr hd) | exact hx 8 d (List.mem_append.mpr hd))
theorem foldl_lt (q : Nat) : ∀ (l : List Nat) (acc : Array Nat), (∀ c ∈ l, c < 1114112) → (∀ c ∈ acc.toList, c < 1114112) → ∀ c ∈ (l.foldl (fun out c => out ++ (Builtin.Str.reprChar q c).toArray) acc).toList, c < 1114112
  | [], acc, _, h => h
  | x :: l, acc, hl, h => by
    rw [List.foldl_cons]
    refine foldl_lt q l _ (fun c hc => hl c (List.mem_cons_of_mem _ hc)) fun c hc => ?_
    rw [Array.toList_append, List.mem_append] at hc
    rcases hc with hc | hc
    · exact h c hc
    · exact reprChar_lt q x (hl x (List.mem_cons_self ..)) c hc
theorem strOk_repr {x : Str} (h : PyData.strOk x = true) : PyData.strOk (reprText x) = true := by
  rw [strOk_mem] at h ⊢
  unfold reprText
  show ∀ c ∈ ((x.cps.foldl (fun out c => out ++ (Builtin.Str.reprChar (reprQuote x) c).toArray) #[reprQuote x]).push (reprQuote x)).toList, c < 1114112
  have hq : reprQuote x < 1114112 := by unfold reprQuote; split <;> decide
  intro c hc
  rw [Array.toList_push, List.mem_append, ← Array.foldl_toList] at hc
  rcases hc with hc | hc
  · exact foldl_lt _ _ _ h (fun c hc => by rw [List.mem_singleton.mp hc]; exact hq) c hc
  · rw [List.mem_singleton.mp hc]; exact hq
section
variable {k : Nat} (hk0 : 0 < k) (hk : k ≤ 1920)
include hk0 hk
mutual
theorem nice_ok : ∀ d : D, niceD k d = true → plain d = true ∧ (toPy d).canLay0 = true ∧ (toPy d).showable = true ∧ (toPy d).hasDict = false ∧ (toPy d).eqv (toPy d) = true ∧ PyData.strOk (toPy d).shown = true ∧ (toPy d).shown.length ≤ wtD k d
  | .non, _ => by refine ⟨rfl, rfl, rfl, rfl, rfl, strOk_of _, ?_⟩; simp only [toPy, PyData.shown, wtD]; decide
  | .bl b, _ => by
    refine ⟨rfl, rfl, rfl, rfl, ?_, ?_, ?_⟩
    · simp [toPy, PyData.eqv]
    · cases b <;> exact strOk_of _
    · simp only [toPy, PyData.shown, wtD]; cases b <;> decide
  | .int i, h => by
    rw [niceD, decide_eq_true_eq] at h
    have hl := log2_nice hk0 h
    refine ⟨rfl, rfl, ?_, rfl, ?_, ?_, ?_⟩
    · rw [toPy, PyData.showable]; exact decide_eq_true (by omega)
    · simp [toPy, PyData.eqv]
    · rw [toPy, PyData.shown]; exact strOk_of _
    · rw [toPy, PyData.shown, wtD]
      have := int_text_length_le hk0 hl
      rw [Str_len]; omega
  | .lst ds, h => by
    rw [niceD] at h
    obtain ⟨h1, h2, h3, h4, h5, h6, h7⟩ := nices_ok ds h
    refine ⟨by rw [DL.plain]; exact h1, by rw [toPy, PyData.canLay0]; exact h2, by rw [toPy, PyData.showable]; exact h3, by rw [toPy, PyData.hasDict]; exact h4, by rw [toPy, PyData.eqv]; exact h5, ?_, ?_⟩
    · rw [toPy, PyData.shown]
      exact strOk_app (strOk_textFrom _ _ _ h6 (strOk_of _)) (strOk_of _)
    · rw [toPy, PyData.shown, wtD]
      have := listText_len_le (PyData.shownAll (toPys ds))
      omega
  | .tup ds, h => by
    rw [niceD] at h
    obtain ⟨h1, h2, h3, h4, h5, h6, h7⟩ := nices_ok ds h
    refine ⟨by rw [DL.plain]; exact h1, by rw [toPy, PyData.canLay0]; exact h2, by rw [toPy, PyData.showable]; exact h3, by rw [toPy, PyData.hasDict]; exact h4, by rw [toPy, PyData.eqv]; exact h5, ?_, ?_⟩
    · rw [toPy, PyData.shown]
      unfold tupleText
      refine strOk_app (strOk_app (strOk_of _) (strOk_join _ _ h6)) ?_
      split <;> exact strOk_of _
    · rw [toPy, PyData.shown, wtD]
      unfold tupleText
      rw [strLen_append, strLen_append]
      have h8 := join_len ", " (PyData.shownAll (toPys ds))
      have h9 : (", " : Str).length = 2 := by decide
      rw [h9] at h8
      have h10 : ("(" : Str).length = 1 := by decide
      have h11 : ((if (PyData.shownAll (toPys ds)).length == 1 then ",)" else ")" : String) : Str).length ≤ 2 := by split <;> decide
      omega
  | .str x, h => by
    rw [niceD] at h
    refine ⟨rfl, by rw [toPy, PyData.canLay0]; exact h, rfl, rfl, ?_, ?_, ?_⟩
    · rw [toPy, PyData.eqv]; exact beq_self_eq_true x
    · rw [toPy, PyData.shown]; exact strOk_repr h
    · rw [toPy, PyData.shown, wtD]
      have := StrLaws.reprText_len x fun c hc => Nat.lt_trans (strOk_mem.mp h c hc) (by decide)
      omega
  | .scr _, h => by simp [niceD] at h
  | .dic _, h => by simp [niceD] at h
  | .dit _, h => by simp [niceD] at h
  | .dkl _, h => by simp [niceD] at h
  | .dtl _, h => by simp [niceD] at h
  | .pnK _ _, h => by simp [niceD] at h
  | .pnT _ _, h => by simp [niceD] at h
  | .obj _ _ _, h => by simp [niceD] at h
  | .cls _, h => by simp [niceD] at h
  | .xcl _ _, h => by simp [niceD] at h
theorem nices_ok : ∀ ds : List D, nicesD k ds = true → plains ds = true ∧ PyData.canLayAll0 (toPys ds) = true ∧ PyData.showableAll (toPys ds) = true ∧ PyData.hasDictAll (toPys ds) = false ∧ PyData.eqvAll (toPys ds) (toPys ds) = true ∧ (∀ t ∈ PyData.shownAll (toPys ds), PyData.strOk t = true) ∧ ((PyData.shownAll (toPys ds)).map (·.length)).sum + 2 * (PyData.shownAll (toPys ds)).length ≤ wtsD k ds
  | [], _ => by refine ⟨rfl, rfl, rfl, rfl, rfl, fun t ht => ?_, ?_⟩ <;> simp_all [toPys, PyData.shownAll, wtsD]
  | d :: ds, h => by
    rw [nicesD, Bool.and_eq_true] at h
    obtain ⟨a1, a2, a3, a4, a5, a6, a7⟩ := nice_ok d h.1
    obtain ⟨h1, h2, h3, h4, h5, h6, h7⟩ := nices_ok ds h.2
    refine ⟨by rw [plains, a1, h1]; rfl, by rw [toPys, PyData.canLayAll0, a2, h2]; rfl, by rw [toPys, PyData.showableAll, a3, h3]; rfl, by rw [toPys, PyData.hasDictAll, a4, h4]; rfl, by rw [toPys, PyData.eqvAll, a5, h5]; rfl, fun t ht => ?_, ?_⟩
    · rw [toPys, PyData.shownAll] at ht
      rcases List.mem_cons.mp ht with e | e
      · rw [e]; exact a6
      · exact h6 t e
    · rw [toPys, PyData.shownAll, wtsD]
      simp only [List.map_cons, List.sum_cons, List.length_cons]
      omega
end
end
/-- nice, not too deep, not too long -/
structure NiceD (d : D) : Prop where
  nice : niceD 256 d = true
  deep : (toPy d).depth ≤ 20
  wt : wtD 256 d ≤ 900000
theorem NiceD.eqv {d : D} (h : NiceD d) : DL.eqv d d = true := (nice_ok (k := 256) (by decide) (by decide) d h.nice).2.2.2.2.1
theorem nices_ints {k : Nat} {l : List Int} (h : ∀ x ∈ l, x.natAbs < 2 ^ k) : nicesD k (l.map D.int) = true := by
  induction l with
  | nil => rfl
  | cons x l ih =>
    rw [List.map_cons, nicesD, niceD, decide_eq_true (h x (List.mem_cons_self ..)), ih fun y hy => h y (List.mem_cons_of_mem _ hy)]; rfl
theorem wts_ints {k : Nat} (l : List Int) : wtsD k (l.map D.int) = l.length * (k + 3) := by
  induction l with
  | nil => simp [wtsD]
  | cons x l ih => rw [List.map_cons, wtsD, wtD, ih, List.length_cons, Nat.add_mul]; omega
theorem NiceD.ints {l : List Int} (h : ∀ x ∈ l, x.natAbs < 2 ^ 256) (hl : l.length ≤ 3000) : NiceD (.lst (l.map D.int)) := by
  refine ⟨by rw [niceD]; exact nices_ints h, ?_, ?_⟩
  · rw [toPy, toPys_ints, PyData.depth, depth_ints]; decide
  · rw [wtD, wts_ints]; omega
theorem NiceD.int {i : Int} (h : i.natAbs < 2 ^ 256) : NiceD (.int i) := ⟨decide_eq_true h, by simp [toPy, PyData.depth], by simp [wtD]⟩
theorem NiceD.bl {i : Bool} : NiceD (.bl i) := ⟨rfl, by simp [toPy, PyData.depth], by simp [wtD]⟩
theorem NiceD.non : NiceD .non := ⟨rfl, by decide, by decide⟩
end DL
/-! the data layer, part 22: lists -/
namespace DL
open PySem PySem.Spec PyProof.Rows L2
theorem sIx_some {n : Nat} {d : Nat} {k : Int} (h0 : 0 ≤ k) (h : k ≤ n) : HT.sIx n d (some k) = k.toNat := by
  show (if k < 0 then (k + n).toNat else min k.toNat n) = k.toNat
  rw [if_neg (by omega)]; omega
theorem cutD_from {l : List D} {k : Int} (h0 : 0 ≤ k) (h : k ≤ l.length) : DL.cutD l (some k) none = l.drop k.toNat := by
  unfold DL.cutD
  rw [sIx_some h0 h, show HT.sIx l.length l.length none = l.length from rfl, List.take_of_length_le (by rw [List.length_drop]; omega)]
theorem cutD_to {l : List D} {k : Int} (h0 : 0 ≤ k) (h : k ≤ l.length) : DL.cutD l none (some k) = l.take k.toNat := by
  unfold DL.cutD
  rw [sIx_some h0 h, show HT.sIx l.length 0 none = 0 from rfl, List.drop_zero, Nat.sub_zero]
theorem ig_mem {l : List Int} {i : Int} (h : -(l.length : Int) ≤ i ∧ i < l.length) : ig l i ∈ l := by
  unfold ig
  by_cases h0 : 0 ≤ i
  · rw [if_pos h0, List.getD_eq_getElem?_getD, List.getElem?_eq_getElem (by omega)]
    exact List.getElem_mem _
  · rw [if_neg h0, List.getD_eq_getElem?_getD, List.getElem?_eq_getElem (by omega)]
    exact List.getElem_mem _
theorem ig_get {l : List Int} {i : Nat} (h : i < l.length) : ig l (i : Int) = l[i] := by
  unfold ig
  rw [if_pos (by omega), List.getD_eq_getElem?_getD, List.getElem?_eq_getElem (by omega)]
  rfl
/-- a comprehension over ints that gives one int for each -/
def mapG (f : Int → Int) : D → Option D
  | .int r => some (.int (f r))
  | _ => none
theorem mapG_all (f : Int → Int) : ∀ l : List Int, (l.map D.int).filterMap (mapG f) = (l.map f).map D.int
  | [] => rfl
  | r :: l => by rw [List.map_cons, List.map_cons, List.map_cons, List.filterMap_cons_some (show mapG f (.int r) = some (.int (f r)) from rfl), mapG_all f l]
/-- a comprehension over ints that keeps some -/
def filG (p : Int → Bool) : D → Option D
  | .int r => if p r = true then some (.int r) else none
  | _ => none
theorem filG_T {p : Int → Bool} {r : Int} (h : p r = true) : filG p (.int r) = some (.int r) := if_pos h
theorem filG_F {p : Int → Bool} {r : Int} (h : p r = false) : filG p (.int r) = none := if_neg (by rw [h]; exact Bool.false_ne_true)
theorem filG_all (p : Int → Bool) : ∀ l : List Int, (l.map D.int).filterMap (filG p) = (l.filter p).map D.int
  | [] => rfl
  | r :: l => by
    rw [List.map_cons, List.filter_cons]
    cases h : p r with
    | true => rw [List.filterMap_cons_some (filG_T h), filG_all p l, if_pos rfl]; rfl
    | false => rw [List.filterMap_cons_none (filG_F h), filG_all p l, if_neg Bool.false_ne_true]
theorem rngD_ints (lo : Int) (n : Nat) : rngD lo n = ((List.range n).map fun i => lo + ((i : Nat) : Int)).map D.int := by
  unfold rngD
  rw [List.map_map]; rfl
theorem i_minL {l : List Int} {Q : Res → Prop} (h0 : 0 < l.length) (h : ∀ m, m ∈ l → (∀ y, y ∈ l → m ≤ y) → Q (.val (.int m))) : minD [.lst (l.map D.int)] Q := ⟨l, ints?_map l, h0, h⟩
theorem i_maxL {l : List Int} {Q : Res → Prop} (h0 : 0 < l.length) (h : ∀ m, m ∈ l → (∀ y, y ∈ l → y ≤ m) → Q (.val (.int m))) : maxD [.lst (l.map D.int)] Q := ⟨l, ints?_map l, h0, h⟩
theorem i_minT {l : List Int} {Q : Res → Prop} (h0 : 0 < l.length) (h : ∀ m, m ∈ l → (∀ y, y ∈ l → m ≤ y) → Q (.val (.int m))) : minD [.tup (l.map D.int)] Q := ⟨_, ints?_map l, h0, h⟩
theorem i_maxT {l : List Int} {Q : Res → Prop} (h0 : 0 < l.length) (h : ∀ m, m ∈ l → (∀ y, y ∈ l → y ≤ m) → Q (.val (.int m))) : maxD [.tup (l.map D.int)] Q := ⟨_, ints?_map l, h0, h⟩
theorem sorted_ints {ns ms ks : List Int} (p : ms.Perm ns) (s : ms.Pairwise (· ≤ ·)) (p2 : ks.Perm ns) (s2 : ks.Pairwise (· ≤ ·)) : ms = ks := by
  refine List.Perm.eq_of_pairwise (le := (· ≤ ·)) (fun a b _ _ h1 h2 => Int.le_antisymm h1 h2) s s2 (p.trans p2.symm)
theorem i_bag {ns : List Int} {Q : Bool → D → List D → Prop} {E : EdT} (h : ∀ b, BagD b → Q true b []) : bagD [.scr (ns.map D.int)] Q E := ⟨ns, rfl, h⟩
theorem s_par3 {rs : List Res} {n : Nat} {P : Prop} (h1 : rs.length = n) (h : P) : rs.length = n ∧ P := ⟨h1, h⟩
theorem i_stN {l : List Int} {k : Nat} {x : Int} {Q : D → Prop} (h1 : k < l.length) (h : Q (.lst ((l.set k x).map D.int))) : stD (.lst (l.map D.int)) (.int (k : Int)) (.int x) Q := by
  refine ⟨k, by rw [List.length_map]; exact ixN_nat h1, ?_⟩
  rw [← List.map_set]; exact h
theorem i_stP {l : List Int} {k : Int} {x : Int} {Q : D → Prop} (h0 : 0 ≤ k) (h1 : k < l.length) (h : Q (.lst ((l.set k.toNat x).map D.int))) : stD (.lst (l.map D.int)) (.int k) (.int x) Q := by
  refine ⟨k.toNat, by rw [List.length_map]; exact ixN_pos h0 h1, ?_⟩
  rw [← List.map_set]; exact h
theorem rep_one (x : D) : ∀ n : Nat, (List.replicate n [x]).flatten = List.replicate n x
  | 0 => rfl
  | n + 1 => by rw [List.replicate_succ, List.replicate_succ, List.flatten_cons, rep_one x n]; rfl
theorem i_mulR {n : Nat} {x : Int} {Q : Res → Prop} (h1 : n ≤ 100000) (h : Q (.fr (.lst ((List.replicate n x).map D.int)))) : mulD (.lst [.int x]) (.int (n : Int)) Q := by
  refine ⟨⟨by omega, by omega, ?_⟩, ?_⟩
  · show 1 * ((n : Int)).toNat ≤ _
    omega
  · rw [Int.toNat_natCast, rep_one, ← List.map_replicate]; exact h
theorem i_appendI {l : List Int} {x : Int} {Q : D → Res → Prop} (h1 : l.length < 100000) (h : Q (.lst ((l ++ [x]).map D.int)) (.val .non)) : appendD (.lst (l.map D.int)) [.int x] Q := by
  refine ⟨by rw [List.length_map]; exact h1, ?_⟩
  rw [List.map_append] at h; exact h
theorem i_popI {l : List Int} {k : Int} {Q : D → Res → Prop} (h0 : 0 ≤ k) (h1 : k < l.length) (h2 : l.length < 2 ^ 63) (h : Q (.lst ((l.eraseIdx k.toNat).map D.int)) (.val (.int (ig l k)))) : popD (.lst (l.map D.int)) [.int k] Q := by
  refine ⟨⟨by omega, by omega⟩, k.toNat, .int (ig l k), ?_, ?_, ?_⟩
  · unfold seqIndex?
    rw [List.length_map]
    simp only [show ¬ k < 0 by omega, if_false]
    rw [if_pos (by rw [Bool.and_eq_true, decide_eq_true_eq, decide_eq_true_eq]; exact ⟨h0, h1⟩)]
  · rw [List.getElem?_map, List.getElem?_eq_getElem (by omega)]
    have e : k = ((k.toNat : Nat) : Int) := by omega
    have := ig_get (l := l) (i := k.toNat) (by omega)
    rw [← e] at this
    rw [this]; rfl
  · have e : ∀ (l : List Int) (k : Nat), (l.map D.int).eraseIdx k = (l.eraseIdx k).map D.int := fun l => by
      induction l with
      | nil => intro k; rfl
      | cons x l ih =>
        intro k
        cases k with
        | zero => rfl
        | succ k => simp only [List.map_cons, List.eraseIdx_cons_succ, ih]
    rw [e]; exact h
/-- how great drawn ranks are -/
abbrev rkOk (x : Int) : Prop := -(10 ^ 12) ≤ x ∧ x ≤ 10 ^ 39
/-- what every law's own def promises -/
abbrev slawD : DSp := fun ds Q _ => ∃ ns : List Int, ds = [.scr (ns.map D.int)] ∧ Q false (.bl true) []
theorem law_fin (ns : List Int) : slawD [.scr (ns.map D.int)] (fun _ d _ => d = .bl true) noX := ⟨ns, rfl, rfl⟩
end DL
/-! the data layer, part 23: rings, outcomes, calls: plain mathematics -/
namespace DL
open PySem PySem.Spec PyProof.Rows L2
/-! ### lists by places -/
theorem ig_nat (l : List Int) (i : Nat) : ig l (i : Int) = l.getD i 0 := by
  unfold ig
  rw [if_pos (by omega)]; rfl
theorem ig_set {l : List Int} {i j : Nat} {x : Int} (hi : i < l.length) : ig (l.set i x) (j : Int) = if i = j then x else ig l (j : Int) := by
  rw [ig_nat, ig_nat, List.getD_eq_getElem?_getD, List.getD_eq_getElem?_getD]
  by_cases h : i = j
  · subst h
    rw [if_pos rfl, List.getElem?_set_self hi]; rfl
  · rw [if_neg h, List.getElem?_set_ne h]
theorem ig_map {f : Int → Int} {l : List Int} {i : Nat} (h : i < l.length) : ig (l.map f) (i : Int) = f (ig l (i : Int)) := by
  rw [ig_get h, ig_get (by rw [List.length_map]; exact h), List.getElem_map]
theorem ig_range {n i : Nat} (f : Nat → Int) (h : i < n) : ig ((List.range n).map f) (i : Int) = f i := by
  rw [ig_get (by simpa using h), List.getElem_map, List.getElem_range]
theorem ig_ext {l m : List Int} (h1 : l.length = m.length) (h : ∀ i : Nat, i < l.length → ig l (i : Int) = ig m (i : Int)) : l = m := by
  apply List.ext_getElem h1
  intro i a b
  have := h i a
  rw [ig_get a, ig_get b] at this
  exact this
theorem ig_app {l m : List Int} {i : Nat} (h : i < l.length) : ig (l ++ m) (i : Int) = ig l (i : Int) := by
  rw [ig_get h, ig_get (by rw [List.length_append]; omega), List.getElem_append_left]
theorem ig_neg1 {l : List Int} (h : 0 < l.length) : ig l (-1) = ig l ((l.length - 1 : Nat) : Int) := by
  unfold ig
  rw [if_neg (by decide), if_pos (by omega)]
  congr 1
  omega
theorem sum_set : ∀ {l : List Int} {i : Nat} {x : Int}, i < l.length → (l.set i x).sum = l.sum - ig l (i : Int) + x
  | [], _, _, h => absurd h (by simp)
  | y :: l, 0, x, _ => by
    rw [List.set_cons_zero, List.sum_cons, List.sum_cons, ig_nat]
    show x + l.sum = y + l.sum - y + x
    omega
  | y :: l, i + 1, x, h => by
    have ih := sum_set (l := l) (i := i) (x := x) (by simpa using h)
    rw [List.set_cons_succ, List.sum_cons, List.sum_cons, ih, ig_nat, ig_nat]
    show _ = y + l.sum - l.getD i 0 + x
    omega
theorem perm_sum {l m : List Int} (h : l.Perm m) : l.sum = m.sum := by
  induction h with
  | nil => rfl
  | cons x _ ih => rw [List.sum_cons, List.sum_cons, ih]
  | swap x y l => simp only [List.sum_cons]; omega
  | trans _ _ h1 h2 => exact h1.trans h2
/-! ### outcomes -/
/-- the places 0, 1, .. as ints -/
def iota (n : Nat) : List Int := (List.range n).map fun i => ((i : Nat) : Int)
theorem iota_len (n : Nat) : (iota n).length = n := by simp [iota]
theorem ig_iota {n i : Nat} (h : i < n) : ig (iota n) (i : Int) = i := ig_range _ h
theorem iota_succ (n : Nat) : iota (n + 1) = iota n ++ [(n : Int)] := by simp [iota, List.range_succ]
theorem mem_iota {n : Nat} {x : Int} : x ∈ iota n ↔ 0 ≤ x ∧ x < n := by
  unfold iota
  rw [List.mem_map]
  constructor
  · rintro ⟨i, hi, rfl⟩
    have := List.mem_range.mp hi
    omega
  · intro ⟨h0, h1⟩
    exact ⟨x.toNat, List.mem_range.mpr (by omega), by omega⟩
theorem iota_nodup (n : Nat) : (iota n).Nodup := by
  unfold iota
  rw [List.nodup_iff_pairwise_ne, List.pairwise_map]
  exact (List.nodup_iff_pairwise_ne.mp (List.nodup_range (n := n))).imp fun h => by omega
theorem ig_iota_self (t : List Int) : ∀ k, k ≤ t.length → (iota k).map (fun i => ig t i) = t.take k := by
  intro k hk
  refine List.ext_getElem (by rw [List.length_map, iota_len, List.length_take]; omega) fun i h1 h2 => ?_
  rw [List.length_map, iota_len] at h1
  rw [List.getElem_map, List.getElem_take, ← ig_get (by rw [iota_len]; exact h1), ig_iota h1, ig_get (by omega)]
/-- one number for each rest, their sum that of the places -/
structure Out (n : Nat) (o : List Int) : Prop where
  len : o.length = n
  inj : ∀ i j : Nat, i < n → j < n → ig o (i : Int) % (n : Int) = ig o (j : Int) % (n : Int) → i = j
  sur : ∀ i : Nat, i < n → ∃ p : Nat, p < n ∧ ig o (p : Int) % (n : Int) = i
  sum : o.sum = (iota n).sum
theorem out_perm {n : Nat} {o : List Int} (h : (o.map fun x => x % (n : Int)).Perm (iota n)) (hs : o.sum = (iota n).sum) : Out n o := by
  have hl : o.length = n := by have := h.length_eq; rw [List.length_map, iota_len] at this; exact this
  refine ⟨hl, fun i j hi hj e => ?_, fun i hi => ?_, hs⟩
  · have nd : (o.map fun x => x % (n : Int)).Nodup := h.nodup_iff.mpr (iota_nodup n)
    have e2 : (o.map fun x => x % (n : Int))[i]'(by rw [List.length_map]; omega) = (o.map fun x => x % (n : Int))[j]'(by rw [List.length_map]; omega) := by
      rw [List.getElem_map, List.getElem_map, ← ig_get (l := o) (i := i) (by omega), ← ig_get (l := o) (i := j) (by omega)]; exact e
    exact (List.getElem_inj nd).mp e2
  · have hm : ((i : Nat) : Int) ∈ o.map fun x => x % (n : Int) := h.mem_iff.mpr (mem_iota.mpr ⟨by omega, by omega⟩)
    obtain ⟨x, hx, e⟩ := List.mem_map.mp hm
    obtain ⟨p, hp, rfl⟩ := List.mem_iff_getElem.mp hx
    exact ⟨p, by omega, by rw [ig_get hp]; exact e⟩
theorem out_iota (n : Nat) : Out n (iota n) := by
  refine ⟨iota_len n, fun i j hi hj e => ?_, fun i hi => ⟨i, hi, ?_⟩, rfl⟩
  · rw [ig_iota hi, ig_iota hj, Int.emod_eq_of_lt (by omega) (by omega), Int.emod_eq_of_lt (by omega) (by omega)] at e
    omega
  · rw [ig_iota hi, Int.emod_eq_of_lt (by omega) (by omega)]
theorem Out.res {n : Nat} {o : List Int} (_ : Out n o) {i : Nat} (hi : i < n) : 0 ≤ ig o (i : Int) % (n : Int) ∧ ig o (i : Int) % (n : Int) < n := ⟨Int.emod_nonneg _ (by omega), Int.emod_lt_of_pos _ (by omega)⟩
/-- where the copy that begins at an unrolled place ends -/
def endAt (o : List Int) (x : Int) : Int := ig o (x % o.length) + x / o.length * o.length
theorem endAt_lap (o : List Int) (x k : Int) (h : 0 < o.length) : endAt o (x + k * o.length) = endAt o x + k * o.length := by
  unfold endAt
  rw [Int.add_mul_emod_self_right, Int.add_mul_ediv_right _ _ (by omega), Int.add_mul]
  omega
theorem endAt_nat {o : List Int} {i : Nat} (h : i < o.length) : endAt o (i : Int) = ig o (i : Int) := by
  unfold endAt
  rw [Int.emod_eq_of_lt (by omega) (by omega), Int.ediv_eq_zero_of_lt (by omega) (by omega)]
  omega
/-- an unrolled place: its place and its laps -/
theorem unroll (n : Nat) (h : 0 < n) (x : Int) : ∃ i : Nat, i < n ∧ x % (n : Int) = i ∧ x = i + x / (n : Int) * n := by
  have r0 := Int.emod_nonneg x (show (n : Int) ≠ 0 by omega)
  have r1 := Int.emod_lt_of_pos x (show (0 : Int) < n by omega)
  refine ⟨(x % n).toNat, by omega, by omega, ?_⟩
  have := Int.emod_add_mul_ediv x n
  rw [Int.mul_comm (x / n) n]
  omega
theorem Out.endAt_inj {n : Nat} {o : List Int} (O : Out n o) (h0 : 0 < n) {x y : Int} (h : endAt o x = endAt o y) : x = y := by
  have e := O.len
  unfold endAt at h
  rw [e] at h
  obtain ⟨i, hi, ei, exx⟩ := unroll n h0 x
  obtain ⟨j, hj, ej, eyy⟩ := unroll n h0 y
  rw [ei, ej] at h
  have hm : ig o (i : Int) % (n : Int) = ig o (j : Int) % (n : Int) := by
    have := congrArg (· % (n : Int)) h
    simpa [Int.add_mul_emod_self_right] using this
  have := O.inj i j hi hj hm
  subst this
  have hq : x / (n : Int) * n = y / (n : Int) * n := by omega
  omega
theorem sum_map_sub {α : Type} (l : List α) (f g : α → Int) : (l.map fun x => f x - g x).sum = (l.map f).sum - (l.map g).sum := by
  induction l with
  | nil => rfl
  | cons x l ih => simp only [List.map_cons, List.sum_cons, ih]; omega
theorem sum_map_add {α : Type} (l : List α) (f g : α → Int) : (l.map fun x => f x + g x).sum = (l.map f).sum + (l.map g).sum := by
  induction l with
  | nil => rfl
  | cons x l ih => simp only [List.map_cons, List.sum_cons, ih]; omega
theorem Out.perm {n : Nat} {o : List Int} (O : Out n o) : (o.map fun x => x % (n : Int)).Perm (iota n) := by
  have nd : (o.map fun x => x % (n : Int)).Nodup := by
    rw [List.nodup_iff_pairwise_ne, List.pairwise_map, List.pairwise_iff_getElem]
    intro i j hi hj hij e
    have hn := O.len
    have := O.inj i j (by omega) (by omega) (by rw [ig_get hi, ig_get hj]; exact e)
    omega
  refine (List.perm_ext_iff_of_nodup nd (iota_nodup n)).mpr fun a => ?_
  rw [mem_iota]
  constructor
  · intro h
    obtain ⟨x, hx, rfl⟩ := List.mem_map.mp h
    have : 0 < n := by
      rw [← O.len]; exact List.length_pos_of_mem hx
    exact ⟨Int.emod_nonneg _ (by omega), Int.emod_lt_of_pos _ (by omega)⟩
  · intro ⟨h0, h1⟩
    obtain ⟨p, hp, e⟩ := O.sur a.toNat (by omega)
    have hl := O.len
    refine List.mem_map.mpr ⟨ig o p, ?_, by omega⟩
    rw [ig_get (by omega)]
    exact List.getElem_mem _
/-- the way back -/
def invO (t : List Int) : List Int := (List.range t.length).map fun (i : Nat) => match (List.range t.length).find? (fun p => decide (ig t ((p : Nat) : Int) % (t.length : Int) = i)) with
  | some p => (p : Int) - ig t (p : Int) / t.length * t.length
  | none => 0
theorem invO_len (t : List Int) : (invO t).length = t.length := by simp [invO]
theorem Out.inv_at {n : Nat} {t : List Int} (O : Out n t) {p : Nat} (hp : p < n) : ig (invO t) (ig t (p : Int) % (n : Int)) = p - ig t (p : Int) / n * n := by
  have hl := O.len
  obtain ⟨r0, r1⟩ := O.res hp
  obtain ⟨i, hi⟩ := Int.eq_ofNat_of_zero_le r0
  rw [hi] at r1 ⊢
  unfold invO
  rw [ig_range _ (by omega), hl]
  have hf : (List.range n).find? (fun q => decide (ig t ((q : Nat) : Int) % (n : Int) = i)) = some p := by
    cases e : (List.range n).find? (fun q => decide (ig t ((q : Nat) : Int) % (n : Int) = i)) with
    | none =>
      have := List.find?_eq_none.mp e p (List.mem_range.mpr hp)
      simp [hi] at this
    | some q =>
      have h1 := List.find?_some e
      have h2 := List.mem_range.mp (List.mem_of_find?_eq_some e)
      have h1 : ig t ((q : Nat) : Int) % (n : Int) = i := by simpa using h1
      rw [O.inj q p h2 hp (by rw [h1, hi])]
  rw [hf]
theorem Out.inv_uniq {n : Nat} {t l : List Int} (O : Out n t) (hl : l.length = n) (h : ∀ p : Nat, p < n → ig l (ig t (p : Int) % (n : Int)) = p - ig t (p : Int) / n * n) : l = invO t := by
  refine ig_ext (by rw [hl, invO_len, O.len]) fun i hi => ?_
  obtain ⟨p, hp, e⟩ := O.sur i (by omega)
  rw [← e, h p hp, O.inv_at hp]
theorem sub_mul_emod' (p q : Int) (n : Nat) : (p - q * n) % (n : Int) = p % (n : Int) := by
  rw [show p - q * n = p + (-q) * n by rw [Int.neg_mul]; omega, Int.add_mul_emod_self_right]
theorem Out.inv {n : Nat} {t : List Int} (O : Out n t) : Out n (invO t) := by
  have hl := O.len
  have key : ∀ i : Nat, i < n → ∃ p : Nat, p < n ∧ ig t (p : Int) % (n : Int) = i ∧ ig (invO t) (i : Int) % (n : Int) = p := fun i hi => by
    obtain ⟨p, hp, e⟩ := O.sur i hi
    refine ⟨p, hp, e, ?_⟩
    rw [← e, O.inv_at hp, sub_mul_emod', Int.emod_eq_of_lt (by omega) (by omega)]
  refine ⟨by rw [invO_len, hl], fun i j hi hj e => ?_, fun p hp => ?_, ?_⟩
  · obtain ⟨p, hp, e1, e2⟩ := key i hi
    obtain ⟨q, hq, e3, e4⟩ := key j hj
    have : p = q := by omega
    subst this
    omega
  · obtain ⟨r0, r1⟩ := O.res hp
    refine ⟨(ig t (p : Int) % (n : Int)).toNat, by omega, ?_⟩
    rw [show (((ig t (p : Int) % (n : Int)).toNat : Nat) : Int) = ig t (p : Int) % (n : Int) by omega, O.inv_at hp, sub_mul_emod', Int.emod_eq_of_lt (by omega) (by omega)]
  · have e1 : (invO t).sum = ((iota n).map fun i => ig (invO t) i).sum := by
      have := ig_iota_self (invO t) n (by rw [invO_len]; omega)
      rw [this, List.take_of_length_le (by rw [invO_len]; omega)]
    have e2 := perm_sum (O.perm.map fun i => ig (invO t) i)
    have et : t = (iota n).map fun i => ig t i := by
      have := ig_iota_self t n (by omega)
      rw [this, List.take_of_length_le (by omega)]
    have e3 : ((t.map fun x => x % (n : Int)).map fun i => ig (invO t) i) = (iota n).map fun p => p - ig t p / n * n := by
      rw [show (t.map fun x => x % (n : Int)) = ((iota n).map fun i => ig t i).map fun x => x % (n : Int) from congrArg (List.map fun x => x % (n : Int)) et, List.map_map, List.map_map]
      refine List.map_congr_left fun p hp => ?_
      obtain ⟨h0, h1⟩ := mem_iota.mp hp
      obtain ⟨q, rfl⟩ := Int.eq_ofNat_of_zero_le h0
      exact O.inv_at (p := q) (by omega)
    rw [e1, ← e2, e3, sum_map_sub]
    have s1 : t.sum = (iota n).sum := O.sum
    have s2 : t.sum = ((iota n).map fun p => ig t p % n).sum + ((iota n).map fun p => ig t p / n * n).sum := by
      conv => lhs; rw [et]
      rw [← sum_map_add]
      congr 1
      refine List.map_congr_left fun p _ => ?_
      have := Int.emod_add_mul_ediv (ig t p) n
      rw [Int.mul_comm (ig t p / n) n]
      exact this.symm
    have s3 : ((iota n).map fun p => ig t p % n).sum = (iota n).sum := by
      have := perm_sum O.perm
      rw [show (t.map fun x => x % (n : Int)) = ((iota n).map fun i => ig t i).map fun x => x % (n : Int) from congrArg (List.map fun x => x % (n : Int)) et, List.map_map] at this
      exact this
    simp only [List.map_id'] at *
    omega
theorem Out.inv_inv {n : Nat} {t : List Int} (O : Out n t) : invO (invO t) = t := by
  have hl := O.len
  refine (O.inv.inv_uniq hl fun i hi => ?_).symm
  obtain ⟨p, hp, e⟩ := O.sur i hi
  have e2 := O.inv_at hp
  rw [e] at e2
  rw [e2, sub_mul_emod', Int.emod_eq_of_lt (by omega) (by omega)]
  have e3 : (p - ig t (p : Int) / n * n : Int) / n = - (ig t (p : Int) / n) := by
    rw [show (p - ig t (p : Int) / n * n : Int) = p + (-(ig t (p : Int) / n)) * n by rw [Int.neg_mul]; omega, Int.add_mul_ediv_right _ _ (by omega), Int.ediv_eq_zero_of_lt (by omega) (by omega)]
    omega
  rw [e3, Int.neg_mul]
  have := Int.emod_add_mul_ediv (ig t (p : Int)) n
  rw [Int.mul_comm] at this
  omega
/-- back and forth -/
theorem Out.end_inv {n : Nat} {t : List Int} (O : Out n t) (h0 : 0 < n) (x : Int) : endAt (invO t) (endAt t x) = x := by
  have hl := O.len
  obtain ⟨i, hi, ei, exx⟩ := unroll n h0 x
  have e : endAt t x = ig t (i : Int) + x / n * n := by unfold endAt; rw [hl, ei]
  rw [e]
  have e2 := endAt_lap (invO t) (ig t (i : Int)) (x / n) (by rw [invO_len]; omega)
  rw [invO_len, hl] at e2
  rw [e2]
  unfold endAt
  rw [invO_len, hl, O.inv_at hi]
  omega
/-- the way back, filled in up to place k -/
structure Scat (n : Nat) (t l : List Int) (k : Nat) : Prop where
  len : l.length = n
  at_ : ∀ p : Nat, p < k → ig l (ig t (p : Int) % (n : Int)) = p - ig t (p : Int) / n * n
theorem Scat.zero (n : Nat) (t : List Int) : Scat n t (List.replicate n 0) 0 := ⟨List.length_replicate, fun _ h => absurd h (Nat.not_lt_zero _)⟩
theorem Scat.step {n : Nat} {t l : List Int} {k : Nat} (O : Out n t) (S : Scat n t l k) (hk : k < n) : Scat n t (l.set (ig t (k : Int) % (n : Int)).toNat (k - ig t (k : Int) + ig t (k : Int) % (n : Int))) (k + 1) := by
  obtain ⟨r0, r1⟩ := O.res hk
  refine ⟨by rw [List.length_set, S.len], fun p hp => ?_⟩
  obtain ⟨q0, q1⟩ := O.res (i := p) (by omega)
  have e : ig t (p : Int) % (n : Int) = (((ig t (p : Int) % (n : Int)).toNat : Nat) : Int) := by omega
  rw [e, ig_set (by rw [S.len]; omega), ← e]
  by_cases h : p = k
  · subst h
    rw [if_pos rfl]
    have := Int.emod_add_mul_ediv (ig t (p : Int)) n
    rw [Int.mul_comm] at this
    omega
  · rw [if_neg fun z => h (O.inj p k (by omega) hk (by omega)), S.at_ p (by omega)]
theorem Scat.done {n : Nat} {t l : List Int} (O : Out n t) (S : Scat n t l n) : l = invO t := O.inv_uniq S.len S.at_
/-! ### calls -/
/-- the place behind a gap, and the laps between -/
def nxP (n g : Nat) : Nat := if g + 1 < n then g + 1 else 0
def shP (n g : Nat) : Int := if g + 1 < n then 0 else n
def swapT (t : List Int) (g : Nat) : List Int := (t.set g (ig t (nxP t.length g : Nat) + shP t.length g)).set (nxP t.length g) (ig t (g : Int) - shP t.length g)
/-- the rank of the copy that begins at an unrolled place -/
def rkP (r : List Int) (x : Int) : Int := ig r (x % r.length)
def passT (r t : List Int) (g : Nat) : Bool := decide (rkP r (ig t (nxP t.length g : Nat) + shP t.length g) < rkP r (ig t (g : Int)))
def callT (r t : List Int) (g : Nat) : List Int := if passT r t g = true then swapT t g else t
theorem nxP_lt {n g : Nat} (h : 0 < n) : nxP n g < n := by unfold nxP; split <;> omega
theorem nxP_ne {n g : Nat} (h : 2 ≤ n) (hg : g < n) : nxP n g ≠ g := by unfold nxP; split <;> omega
theorem shP_mod (n g : Nat) (x : Int) : (x + shP n g) % (n : Int) = x % (n : Int) ∧ (x - shP n g) % (n : Int) = x % (n : Int) := by
  unfold shP
  split
  · simp
  · exact ⟨by rw [Int.add_emod_right], by rw [Int.sub_emod_right]⟩
theorem swapT_len (t : List Int) (g : Nat) : (swapT t g).length = t.length := by simp [swapT]
theorem swapT_at {n : Nat} {t : List Int} (hl : t.length = n) {g : Nat} (hg : g < n) (p : Nat) : ig (swapT t g) (p : Int) = if nxP n g = p then ig t (g : Int) - shP n g else if g = p then ig t (nxP n g : Nat) + shP n g else ig t (p : Int) := by
  unfold swapT
  rw [hl, ig_set (by rw [List.length_set, hl]; exact nxP_lt (by omega)), ig_set (by omega)]
/-- who stands there otherwise -/
def tau (n g p : Nat) : Nat := if nxP n g = p then g else if g = p then nxP n g else p
theorem tau_lt {n g p : Nat} (hg : g < n) (hp : p < n) : tau n g p < n := by
  have := nxP_lt (n := n) (g := g) (by omega)
  unfold tau; split
  · exact hg
  · split <;> omega
theorem tau_tau {n g p : Nat} (h2 : 2 ≤ n) (hg : g < n) : tau n g (tau n g p) = p := by
  have := nxP_ne h2 hg
  unfold tau
  repeat' split
  all_goals first | omega | (simp_all; try omega)
theorem swapT_res {n : Nat} {t : List Int} (hl : t.length = n) {g : Nat} (hg : g < n) (p : Nat) : ig (swapT t g) (p : Int) % (n : Int) = ig t (tau n g p : Nat) % (n : Int) := by
  rw [swapT_at hl hg]
  unfold tau
  split
  · exact (shP_mod n g _).2
  · split
    · exact (shP_mod n g _).1
    · rfl
theorem Out.swap {n : Nat} {t : List Int} (O : Out n t) (h2 : 2 ≤ n) {g : Nat} (hg : g < n) : Out n (swapT t g) := by
  have hl := O.len
  refine ⟨by rw [swapT_len, hl], fun i j hi hj e => ?_, fun i hi => ?_, ?_⟩
  · rw [swapT_res hl hg, swapT_res hl hg] at e
    have := O.inj _ _ (tau_lt hg hi) (tau_lt hg hj) e
    rw [← tau_tau (p := i) h2 hg, this, tau_tau h2 hg]
  · obtain ⟨p, hp, e⟩ := O.sur i hi
    exact ⟨tau n g p, tau_lt hg hp, by rw [swapT_res hl hg, tau_tau h2 hg, e]⟩
  · have hx := nxP_lt (n := n) (g := g) (by omega)
    unfold swapT
    rw [hl, sum_set (by rw [List.length_set, hl]; exact hx), sum_set (by omega), ig_set (by omega), if_neg (nxP_ne h2 hg).symm, O.sum]
    omega
theorem callT_len (r t : List Int) (g : Nat) : (callT r t g).length = t.length := by
  unfold callT; split
  · exact swapT_len t g
  · rfl
theorem Out.call {n : Nat} {t : List Int} (O : Out n t) (h2 : 2 ≤ n) (r : List Int) {g : Nat} (hg : g < n) : Out n (callT r t g) := by
  unfold callT; split
  · exact O.swap h2 hg
  · exact O
/-- the copies at the places after a schedule -/
def runT (r : List Int) : List Int → List Int → List Int
  | [], t => t
  | g :: gs, t => runT r gs (callT r t g.toNat)
theorem Out.run {n : Nat} (h2 : 2 ≤ n) (r : List Int) : ∀ (gs t : List Int), (∀ g ∈ gs, 0 ≤ g ∧ g < n) → Out n t → Out n (runT r gs t)
  | [], _, _, O => O
  | g :: gs, t, h, O => by
    have := h g (List.mem_cons_self ..)
    exact Out.run h2 r gs _ (fun x hx => h x (List.mem_cons_of_mem _ hx)) (O.call h2 r (by omega))
/-- a schedule for rings of n places -/
structure Sch (n : Int) (l : List Int) : Prop where
  mem : ∀ g ∈ l, 0 ≤ g ∧ g < n
/-- the indexes of the calls at which somebody passes, from k on -/
def passed (r : List Int) : List Int → List Int → Int → List Int
  | [], _, _ => []
  | g :: gs, t, k => if passT r t g.toNat = true then k :: passed r gs (callT r t g.toNat) (k + 1) else passed r gs (callT r t g.toNat) (k + 1)
end DL
/-! the data layer, part 24: those that are carried over a moment: plain mathematics -/
namespace DL
open PySem PySem.Spec PyProof.Rows L2
theorem sum_congr {n : Nat} {f g : Nat → Int} (h : ∀ i, i < n → f i = g i) : ((List.range n).map f).sum = ((List.range n).map g).sum := by
  congr 1
  exact List.map_congr_left fun i hi => h i (List.mem_range.mp hi)
/-- two sums that differ at one place -/
theorem sum_one {f g : Nat → Int} {d : Int} {j : Nat} : ∀ {n : Nat}, j < n → (∀ i, i < n → i ≠ j → f i = g i) → f j = g j + d → ((List.range n).map f).sum = ((List.range n).map g).sum + d
  | 0, hj, _, _ => absurd hj (Nat.not_lt_zero _)
  | n + 1, hj, h, e => by
    rw [List.range_succ, List.map_append, List.map_append, List.sum_append, List.sum_append, List.map_singleton, List.map_singleton, List.sum_singleton, List.sum_singleton]
    by_cases hn : j = n
    · subst hn
      rw [sum_congr (n := j) (f := f) (g := g) fun i hi => h i (by omega) (by omega), e]
      omega
    · rw [sum_one (n := n) (by omega) (fun i hi => h i (by omega)) e, h n (by omega) (by omega)]
      omega
theorem sum_zero {n : Nat} {f : Nat → Int} (h : ∀ i, i < n → f i = 0) : ((List.range n).map f).sum = 0 := by
  rw [sum_congr h]
  induction n with
  | zero => rfl
  | succ n ih =>
    rw [List.range_succ, List.map_append, List.sum_append, ih fun i hi => h i (by omega)]
    rfl
theorem sum_nonneg {n : Nat} {f : Nat → Int} (h : ∀ i, i < n → 0 ≤ f i) : 0 ≤ ((List.range n).map f).sum := by
  induction n with
  | zero => exact Int.le_refl 0
  | succ n ih =>
    rw [List.range_succ, List.map_append, List.sum_append, List.map_singleton, List.sum_singleton]
    have := ih fun i hi => h i (by omega)
    have := h n (by omega)
    omega
/-- the copies of one person that begin up to b and end behind e -/
def carr1 (n : Nat) (b e p x : Int) : Int := max 0 ((b - p) / n - (e - x) / n)
def carrF (n : Nat) (b e : Int) : Int → List Int → Int
  | _, [] => 0
  | p, x :: o => carr1 n b e p x + carrF n b e (p + 1) o
def carrO (o : List Int) (b e : Int) : Int := carrF o.length b e 0 o
theorem carrF_sum (n : Nat) (b e : Int) : ∀ (o : List Int) (p : Int), carrF n b e p o = ((List.range o.length).map fun (i : Nat) => carr1 n b e (p + i) (ig o (i : Int))).sum
  | [], p => rfl
  | x :: o, p => by
    rw [carrF, List.length_cons, List.range_succ_eq_map, List.map_cons, List.sum_cons, List.map_map, carrF_sum n b e o (p + 1)]
    congr 1
    · rw [ig_nat]
      simp
    · refine sum_congr fun i _ => ?_
      show carr1 n b e (p + 1 + i) (ig o i) = carr1 n b e (p + ((i + 1 : Nat) : Int)) (ig (x :: o) ((i + 1 : Nat) : Int))
      rw [ig_nat, ig_nat, List.getD_cons_succ, show p + 1 + (i : Int) = p + ((i + 1 : Nat) : Int) by omega]
theorem carrO_sum (o : List Int) (b e : Int) : carrO o b e = ((List.range o.length).map fun (i : Nat) => carr1 o.length b e i (ig o (i : Int))).sum := by
  unfold carrO
  rw [carrF_sum]
  exact sum_congr fun i _ => by rw [Int.zero_add]
theorem ediv_pred {n : Nat} (h : 0 < n) {x : Int} (hx : ¬ x % (n : Int) = 0) : (x - 1) / (n : Int) = x / n := by
  have r0 := Int.emod_nonneg x (show (n : Int) ≠ 0 by omega)
  have r1 := Int.emod_lt_of_pos x (show (0 : Int) < n by omega)
  have := Int.emod_add_mul_ediv x n
  rw [show x - 1 = (x % n - 1) + x / n * n by rw [Int.mul_comm (x / n) n]; omega, Int.add_mul_ediv_right _ _ (by omega), Int.ediv_eq_zero_of_lt (by omega) (by omega)]
  omega
theorem ediv_pred0 {n : Nat} (h : 0 < n) {x : Int} (hx : x % (n : Int) = 0) : (x - 1) / (n : Int) = x / n - 1 := by
  have := Int.emod_add_mul_ediv x n
  rw [show x - 1 = (n - 1 : Int) + (x / n - 1) * n by rw [Int.sub_mul, Int.mul_comm (x / n) n]; omega, Int.add_mul_ediv_right _ _ (by omega), Int.ediv_eq_zero_of_lt (by omega) (by omega)]
  omega
theorem sub_emod_zero {n : Nat} {x y : Int} (h : (x - y) % (n : Int) = 0) : x % (n : Int) = y % n := Int.emod_eq_emod_iff_emod_sub_eq_zero.mpr h
theorem emod_sub_zero {n : Nat} {x y : Int} (h : x % (n : Int) = y % n) : (x - y) % (n : Int) = 0 := Int.emod_eq_emod_iff_emod_sub_eq_zero.mp h
def boI (b : Bool) : Int := if b then 1 else 0
/-- one more beginning -/
theorem carrO_begin {o : List Int} (h0 : 0 < o.length) (b e : Int) : carrO o b e = carrO o (b - 1) e + boI (decide (e < endAt o b)) := by
  rw [carrO_sum, carrO_sum]
  have r0 := Int.emod_nonneg b (show (o.length : Int) ≠ 0 by omega)
  have r1 := Int.emod_lt_of_pos b (show (0 : Int) < o.length by omega)
  have hm := Int.emod_add_mul_ediv b o.length
  refine sum_one (n := o.length) (j := (b % o.length).toNat) (by omega) (fun i hi hj => ?_) ?_
  · unfold carr1
    rw [show b - 1 - (i : Int) = b - i - 1 by omega, ediv_pred h0]
    intro hz
    have := sub_emod_zero hz
    rw [Int.emod_eq_of_lt (a := (i : Int)) (by omega) (by omega)] at this
    omega
  · have hj : (((b % o.length).toNat : Nat) : Int) = b % o.length := by omega
    rw [hj]
    have e1 : (b - b % o.length) / (o.length : Int) = b / o.length := by
      rw [show b - b % (o.length : Int) = b / o.length * o.length by rw [Int.mul_comm]; omega, Int.mul_ediv_cancel _ (by omega)]
    have hz : (b - b % (o.length : Int)) % (o.length : Int) = 0 := emod_sub_zero (by rw [Int.emod_emod])
    unfold carr1
    rw [show b - 1 - b % (o.length : Int) = b - b % o.length - 1 by omega, ediv_pred0 h0 hz, e1]
    generalize hx : ig o (b % o.length) = x
    have he : endAt o b = x + b / o.length * o.length := by unfold endAt; rw [hx]
    rw [he]
    have key : (e - x) / (o.length : Int) < b / o.length ↔ e < x + b / o.length * o.length := by
      rw [Int.ediv_lt_iff_lt_mul (by omega)]
      omega
    unfold boI
    by_cases hc : e < x + b / o.length * o.length
    · rw [if_pos (by simpa using hc)]
      have := key.mpr hc
      omega
    · rw [if_neg (by simpa using hc)]
      have : ¬ (e - x) / (o.length : Int) < b / o.length := fun z => hc (key.mp z)
      omega
/-- one ending less -/
theorem carrO_end {n : Nat} {o : List Int} (O : Out n o) (h0 : 0 < n) (b e : Int) : carrO o b (e - 1) = carrO o b e + boI (decide (endAt (invO o) e ≤ b)) := by
  have hl := O.len
  rw [carrO_sum, carrO_sum, hl]
  have r0 := Int.emod_nonneg e (show (n : Int) ≠ 0 by omega)
  have r1 := Int.emod_lt_of_pos e (show (0 : Int) < n by omega)
  have hm := Int.emod_add_mul_ediv e n
  obtain ⟨p, hp, ep⟩ := O.sur (e % n).toNat (by omega)
  have ep : ig o (p : Int) % (n : Int) = e % n := by omega
  have hi : endAt (invO o) e = p + e - ig o (p : Int) := by
    unfold endAt
    rw [invO_len, hl, ← ep, O.inv_at hp]
    have := Int.emod_add_mul_ediv (ig o (p : Int)) n
    rw [Int.mul_comm] at this hm
    omega
  refine sum_one (j := p) hp (fun i hi' hj => ?_) ?_
  · unfold carr1
    rw [show e - 1 - ig o (i : Int) = e - ig o (i : Int) - 1 by omega, ediv_pred h0]
    intro hz
    exact hj (O.inj i p hi' hp (by rw [ep]; exact (sub_emod_zero hz).symm))
  · rw [hi]
    have hz : (e - ig o (p : Int)) % (n : Int) = 0 := emod_sub_zero ep.symm
    unfold carr1
    rw [show e - 1 - ig o (p : Int) = e - ig o (p : Int) - 1 by omega, ediv_pred0 h0 hz]
    have ht := Int.emod_add_mul_ediv (e - ig o (p : Int)) n
    rw [hz, Int.mul_comm] at ht
    have key : (e - ig o (p : Int)) / (n : Int) ≤ (b - p) / n ↔ p + e - ig o (p : Int) ≤ b := by
      rw [Int.le_ediv_iff_mul_le (by omega)]
      omega
    unfold boI
    by_cases hc : p + e - ig o (p : Int) ≤ b
    · rw [if_pos (by simpa using hc)]
      have := key.mpr hc
      omega
    · rw [if_neg (by simpa using hc)]
      have : ¬ (e - ig o (p : Int)) / (n : Int) ≤ (b - p) / n := fun z => hc (key.mp z)
      omega
/-- laps later -/
theorem carrO_laps (o : List Int) (h0 : 0 < o.length) (b e k : Int) : carrO o (b + k * o.length) (e + k * o.length) = carrO o b e := by
  rw [carrO_sum, carrO_sum]
  refine sum_congr fun i _ => ?_
  unfold carr1
  rw [show b + k * o.length - (i : Int) = b - i + k * o.length by omega, show e + k * o.length - ig o (i : Int) = e - ig o (i : Int) + k * o.length by omega, Int.add_mul_ediv_right _ _ (by omega), Int.add_mul_ediv_right _ _ (by omega)]
  congr 1
  omega
/-- none when all have ended -/
theorem carrO_zero {o : List Int} {far b e : Int} (h : ∀ i : Nat, i < o.length → ig o (i : Int) - i ≤ far) (he : b + far ≤ e) : carrO o b e = 0 := by
  rw [carrO_sum]
  refine sum_zero fun i hi => ?_
  unfold carr1
  have := h i hi
  have : (b - i) / (o.length : Int) ≤ (e - ig o (i : Int)) / o.length := Int.ediv_le_ediv (by omega) (by omega)
  omega
/-- counted one by one -/
theorem carrO_count {o : List Int} (h0 : 0 < o.length) {far e : Int} (h : ∀ i : Nat, i < o.length → ig o (i : Int) - i ≤ far) : ∀ k : Nat, ((((List.range k).map fun i => e - far + (i : Nat)).filter fun x => decide (e < endAt o x)).length : Int) = carrO o (e - far + k - 1) e
  | 0 => by rw [carrO_zero h (by omega)]; rfl
  | k + 1 => by
    rw [List.range_succ, List.map_append, List.filter_append, List.length_append, Int.natCast_add, carrO_count h0 h k, show e - far + ((k + 1 : Nat) : Int) - 1 = e - far + k by omega, carrO_begin h0 (e - far + k)]
    congr 1
    rw [List.map_singleton, List.filter_cons]
    unfold boI
    split <;> rfl
/-! ### how far the places lie -/
def Far (B : Nat) (t : List Int) : Prop := ∀ x ∈ t, x.natAbs ≤ B
theorem Far.ig {B : Nat} {t : List Int} (h : Far B t) (i : Nat) : (DL.ig t (i : Int)).natAbs ≤ B := by
  by_cases hi : i < t.length
  · rw [ig_get hi]
    exact h _ (List.getElem_mem _)
  · rw [ig_nat, List.getD_eq_getElem?_getD, List.getElem?_eq_none (by omega)]
    exact Nat.zero_le _
theorem Far.set {B : Nat} {t : List Int} (h : Far B t) {i : Nat} {x : Int} (hx : x.natAbs ≤ B) : Far B (t.set i x) := fun y hy => by
  rcases List.mem_or_eq_of_mem_set hy with hy | rfl
  · exact h y hy
  · exact hx
theorem Far.mono {B B' : Nat} {t : List Int} (h : Far B t) (hb : B ≤ B') : Far B' t := fun x hx => Nat.le_trans (h x hx) hb
theorem shP_bound (n g : Nat) : (shP n g).natAbs ≤ n := by unfold shP; split <;> simp
theorem Far.call {B : Nat} {t : List Int} (h : Far B t) (r : List Int) (g : Nat) : Far (B + t.length) (callT r t g) := by
  unfold callT
  split
  · unfold swapT
    have hs := shP_bound t.length g
    refine ((h.mono (by omega)).set ?_).set ?_
    · have := h.ig (nxP t.length g)
      have := Int.natAbs_add_le (DL.ig t (nxP t.length g : Nat)) (shP t.length g)
      omega
    · have := h.ig g
      have := Int.natAbs_sub_le (DL.ig t (g : Int)) (shP t.length g)
      omega
  · exact h.mono (by omega)
theorem Far.run {n : Nat} (r : List Int) : ∀ (gs : List Int) {B : Nat} {t : List Int}, t.length = n → Far B t → Far (B + n * gs.length) (runT r gs t)
  | [], B, t, _, h => h
  | g :: gs, B, t, hl, h => by
    have := Far.run r gs (B := B + n) (t := callT r t g.toNat) (by rw [callT_len, hl]) (by have := h.call r g.toNat; rwa [hl] at this)
    refine this.mono ?_
    rw [List.length_cons, Nat.mul_succ]
    omega
theorem far_iota (n : Nat) : Far n (iota n) := fun x hx => by
  have := mem_iota.mp hx
  omega
theorem Far.inv {n B : Nat} {t : List Int} (O : Out n t) (h : Far B t) : Far (B + 2 * n) (invO t) := fun x hx => by
  have hl := O.len
  obtain ⟨i, hi, rfl⟩ := List.mem_iff_getElem.mp hx
  rw [← ig_get hi]
  rw [invO_len, hl] at hi
  obtain ⟨p, hp, e⟩ := O.sur i hi
  rw [← e, O.inv_at hp]
  have := h.ig p
  have := Int.emod_add_mul_ediv (DL.ig t (p : Int)) n
  rw [Int.mul_comm] at this
  obtain ⟨r0, r1⟩ := O.res hp
  omega
end DL
/-! the data layer, part 25: crossings of an outcome: plain mathematics -/
namespace DL
open PySem PySem.Spec PyProof.Rows L2
theorem sum_iota (n : Nat) (f : Int → Int) : ((iota n).map f).sum = ((List.range n).map fun (i : Nat) => f i).sum := by
  unfold iota
  rw [List.map_map]; rfl
theorem rgD_iota (n : Nat) : rgD 0 (n : Int) = (iota n).map D.int := by
  rw [rgD_nat]; rfl
end DL
/-! the data layer, part 26: sorted(set(l)), l a list of ints -/
namespace DL
open PySem PySem.Spec PyProof.Rows L2
/-! ### sorted(set(l)) -/
def rSetL (K : Fg) (w : World) : List V → Hp → VK → Prop := fun vs H Q => ∃ (l : Addr) (ns : List Int), vs = [.ref l] ∧ SqL K H l (ns.map V.int) ∧ ns.length + 1 < scanBound ∧ ∀ a c, c ≤ ns.length → H a = none → Q (.ref a) (upd H a (SetO w a (fun j => decide (j ∈ ns)) c))
section
variable {X : Cx} {C : Ctx}
def mSS (ma : DTE) : DTE := fun Γ Q => ma Γ fun r Γ1 => ∃ ds ns, rd Γ1 r = some (.lst ds) ∧ ints? ds = some ns ∧ ns.length < 64 ∧ ∀ ms : List Int, ms.Pairwise (· < ·) → (∀ k, k ∈ ms ↔ k ∈ ns) → Q (.fr (.lst (ms.map D.int))) Γ1
end
section
variable {ma : DTE} {Γ : Env} {Q : QE} {r : Res}
def ssk (r : Res) (Γ1 : Env) (Q : QE) : Prop := ∃ ds ns, rd Γ1 r = some (.lst ds) ∧ ints? ds = some ns ∧ ns.length < 64 ∧ ∀ ms : List Int, ms.Pairwise (· < ·) → (∀ k, k ∈ ms ↔ k ∈ ns) → Q (.fr (.lst (ms.map D.int))) Γ1
theorem w_SS (h : ma Γ fun r Γ1 => ssk r Γ1 Q) : mSS ma Γ Q := h
theorem w_ss {l : List Int} (h1 : rd Γ r = some (.lst (l.map D.int))) (h2 : l.length < 64) (h : ∀ ms : List Int, ms.Pairwise (· < ·) → (∀ k, k ∈ ms ↔ k ∈ l) → Q (.fr (.lst (ms.map D.int))) Γ) : ssk r Γ Q := ⟨_, l, h1, ints?_map l, h2, h⟩
end
end DL
/-! the data layer, part 27: the members of a list in rising order: plain mathematics -/
namespace DL
open PySem PySem.Spec PyProof.Rows L2
end DL
/-! the data layer, part 28: a new list is changed and dropped -/
namespace DL
open PySem PySem.Spec PyProof.Rows L2
/-- o.m(n) of a new list that nobody keeps -/
def mMutF (f : D → List D → (D → Res → Prop) → Prop) (mo : DTE) (as : List D) : DTE := fun Γ Q => mo Γ fun ro Γ1 => ∃ ds, ro = .fr (.lst ds) ∧ f (.lst ds) as fun _ z => Q z Γ1
section
variable {mo : DTE} {Γ : Env} {Q : QE} {r : Res}
def mfk (f : D → List D → (D → Res → Prop) → Prop) (as : List D) (r : Res) (Γ1 : Env) (Q : QE) : Prop := ∃ ds, r = .fr (.lst ds) ∧ f (.lst ds) as fun _ z => Q z Γ1
theorem e_MutF {f : D → List D → (D → Res → Prop) → Prop} {as : List D} (h : mo Γ fun r Γ1 => mfk f as r Γ1 Q) : mMutF f mo as Γ Q := h
theorem e_mutF {f : D → List D → (D → Res → Prop) → Prop} {as ds : List D} (h : f (.lst ds) as fun _ z => Q z Γ) : mfk f as (.fr (.lst ds)) Γ Q := ⟨ds, rfl, h⟩
end
end DL
/-! the data layer, part 29: block rings: plain mathematics -/
namespace DL
open PySem PySem.Spec PyProof.Rows L2
/-- the ranks of a ring with c strong places, the last of them at x -/
def blk (n : Nat) (c x : Int) : List Int := (iota n).map fun p => if (x - p) % (n : Int) < c then 1 else 0
end DL
/-! the data layer, part 30: data in data: nice, equal -/
namespace DL
open PySem PySem.Spec PyProof.Rows L2
/-- nice, at most k deep, of weight at most w -/
structure Ni (k w : Nat) (d : D) : Prop where
  nice : niceD 256 d = true
  deep : (toPy d).depth ≤ k
  wt : wtD 256 d ≤ w
structure Nis (k w : Nat) (ds : List D) : Prop where
  nice : nicesD 256 ds = true
  deep : PyData.depthAll (toPys ds) ≤ k
  wt : wtsD 256 ds ≤ w
theorem Ni.done {k w : Nat} {d : D} (h : Ni k w d) (hk : k ≤ 20) (hw : w ≤ 900000) : NiceD d := ⟨h.nice, Nat.le_trans h.deep hk, Nat.le_trans h.wt hw⟩
theorem Nis.nil : Nis 0 0 [] := ⟨rfl, by rw [toPys, PyData.depthAll]; exact Nat.le_refl _, by rw [wtsD]; exact Nat.le_refl _⟩
theorem Nis.cons {k w k2 w2 : Nat} {d : D} {ds : List D} (h : Ni k w d) (t : Nis k2 w2 ds) : Nis (max k k2) (w + 2 + w2) (d :: ds) := by
  refine ⟨by rw [nicesD, h.nice, t.nice]; rfl, ?_, ?_⟩
  · rw [toPys, PyData.depthAll]
    have := h.deep
    have := t.deep
    omega
  · rw [wtsD]
    have := h.wt
    have := t.wt
    omega
theorem Ni.lst {k w : Nat} {ds : List D} (h : Nis k w ds) : Ni (k + 1) (w + 4) (.lst ds) := by
  refine ⟨by rw [niceD]; exact h.nice, ?_, ?_⟩
  · rw [toPy, PyData.depth]
    have := h.deep
    omega
  · rw [wtD]
    have := h.wt
    omega
theorem Ni.tup {k w : Nat} {ds : List D} (h : Nis k w ds) : Ni (k + 1) (w + 4) (.tup ds) := by
  refine ⟨by rw [niceD]; exact h.nice, ?_, ?_⟩
  · rw [toPy, PyData.depth]
    have := h.deep
    omega
  · rw [wtD]
    have := h.wt
    omega
theorem Ni.int {i : Int} (h : i.natAbs < 2 ^ 256) : Ni 0 257 (.int i) := ⟨decide_eq_true h, by simp [toPy, PyData.depth], by simp [wtD]⟩
theorem Ni.bl {b : Bool} : Ni 0 5 (.bl b) := ⟨rfl, by simp [toPy, PyData.depth], by simp [wtD]⟩
theorem Ni.non : Ni 0 5 .non := ⟨rfl, by decide, by decide⟩
theorem Nis.ints {l : List Int} (h : ∀ x ∈ l, x.natAbs < 2 ^ 256) {m : Nat} (hl : l.length ≤ m) : Nis 0 (m * 259) (l.map D.int) := by
  refine ⟨nices_ints h, by rw [toPys_ints, depth_ints]; exact Nat.le_refl _, ?_⟩
  rw [wts_ints]
  exact Nat.mul_le_mul_right _ hl
theorem Ni.ints {l : List Int} (h : ∀ x ∈ l, x.natAbs < 2 ^ 256) {m : Nat} (hl : l.length ≤ m) : Ni 1 (m * 259 + 4) (.lst (l.map D.int)) := Ni.lst (Nis.ints h hl)
/-- many nice data -/
theorem Nis.all {k w : Nat} : ∀ {ds : List D}, (∀ d ∈ ds, Ni k w d) → Nis k (ds.length * (w + 2)) ds
  | [], _ => ⟨rfl, by rw [toPys, PyData.depthAll]; exact Nat.zero_le _, by rw [wtsD]; exact Nat.zero_le _⟩
  | d :: ds, h => by
    have t := Nis.all (ds := ds) fun e he => h e (List.mem_cons_of_mem _ he)
    have c := Nis.cons (h d (List.mem_cons_self ..)) t
    refine ⟨c.nice, by have := c.deep; omega, ?_⟩
    have := c.wt
    rw [List.length_cons, Nat.succ_mul]
    omega
end DL
/-! the data layer, part 31: repr and len of own objects, {list} in an f-string -/
namespace DL
open PySem PySem.Spec PyProof.Rows L2
end DL
/-! the data layer, part 32: repr and len of own objects, f-strings: over data -/
namespace DL
open PySem PySem.Spec PyProof.Rows L2
def rpk (Γ2 : Env) (Q : QE) : Bool → D → List D → Prop := fun b d ds' => ∃ Γ3, putsD [] ds' Γ2 = some Γ3 ∧ (Γ3 = Γ2 ∧ ∃ z, (if b = true then Res.fr d else .val d) = .val (.str z) ∧ Q (.val (.str z)) Γ2)
theorem rpk_in {Γ2 : Env} {Q : QE} {z : Str} (h : Q (.val (.str z)) Γ2) : rpk Γ2 Q false (.str z) [] := ⟨Γ2, rfl, rfl, z, rfl, h⟩
def lnk (Γ2 : Env) (Q : QE) : Bool → D → List D → Prop := fun b d ds' => ∃ Γ3, putsD [] ds' Γ2 = some Γ3 ∧ (Γ3 = Γ2 ∧ ∃ z : Int, (if b = true then Res.fr d else .val d) = .val (.int z) ∧ 0 ≤ z ∧ z < 2 ^ 63 ∧ Q (.val (.int z)) Γ2)
theorem lnk_in {Γ2 : Env} {Q : QE} {z : Int} (h0 : 0 ≤ z) (h1 : z < 2 ^ 63) (h : Q (.val (.int z)) Γ2) : lnk Γ2 Q false (.int z) [] := ⟨Γ2, rfl, rfl, z, rfl, h0, h1, h⟩
def mReprO (C : Addr) (sd : DSp) (ma : DTE) : DTE := fun Γ Q => ma Γ fun ra Γ1 => ∃ ns ds, dat ra = some (.obj C ns ds) ∧ sd [.obj C ns ds] (rpk Γ1 Q) noX
def mLenO (C : Addr) (sd : DSp) (ma : DTE) : DTE := fun Γ Q => ma Γ fun ra Γ1 => ∃ ns ds, dat ra = some (.obj C ns ds) ∧ sd [.obj C ns ds] (lnk Γ1 Q) noX
/-! ### f-strings -/
section
variable {X : Cx} {C : Ctx}
def fmtD : D → Option Str
  | .str y => if y.length ≤ 1000000 then some y else none
  | .int i => if i.natAbs.log2 < 1920 then some (toString i) else none
  | .lst ds => if okR (.lst ds) = true then some (toPy (.lst ds)).shown else none
  | .tup ds => if okR (.tup ds) = true then some (toPy (.tup ds)).shown else none
  | _ => none
def mFmt (ma : DTE) : DTE := fun Γ Q => ma Γ fun r Γ1 => ∃ d y, rd Γ1 r = some d ∧ fmtD d = some y ∧ Q (.val (.str y)) Γ1
/-- the parts, one behind the other -/
def mJs : List DTE → Str → Env → (Str → Env → Prop) → Prop
  | [], acc, Γ, Q => Q acc Γ
  | m :: ms, acc, Γ, Q => m Γ fun r Γ1 => ∃ y, r = .val (.str y) ∧ (acc ++ y).length ≤ 1000000 ∧ mJs ms (acc ++ y) Γ1 Q
def mJoined (ms : List DTE) : DTE := fun Γ Q => mJs ms Str.empty Γ fun y Γ1 => Q (.val (.str y)) Γ1
end
/-! ### rules and steps -/
section
variable {C0 : Addr} {sd : DSp} {m ma : DTE} {ms : List DTE} {Γ : Env} {Q : QE} {r : Res} {d : D} {acc : Str}
def rok (C0 : Addr) (sd : DSp) (r : Res) (Γ1 : Env) (Q : QE) : Prop := ∃ ns ds, dat r = some (.obj C0 ns ds) ∧ sd [.obj C0 ns ds] (rpk Γ1 Q) noX
theorem e_ReprO (h : ma Γ fun r Γ1 => rok C0 sd r Γ1 Q) : mReprO C0 sd ma Γ Q := h
theorem e_reprO {ns : List Str} {ds : List D} (h1 : dat r = some (.obj C0 ns ds)) (h : sd [.obj C0 ns ds] (rpk Γ Q) noX) : rok C0 sd r Γ Q := ⟨ns, ds, h1, h⟩
def lok (C0 : Addr) (sd : DSp) (r : Res) (Γ1 : Env) (Q : QE) : Prop := ∃ ns ds, dat r = some (.obj C0 ns ds) ∧ sd [.obj C0 ns ds] (lnk Γ1 Q) noX
theorem e_LenO (h : ma Γ fun r Γ1 => lok C0 sd r Γ1 Q) : mLenO C0 sd ma Γ Q := h
theorem e_lenO {ns : List Str} {ds : List D} (h1 : dat r = some (.obj C0 ns ds)) (h : sd [.obj C0 ns ds] (lnk Γ Q) noX) : lok C0 sd r Γ Q := ⟨ns, ds, h1, h⟩
def fmk (r : Res) (Γ1 : Env) (Q : QE) : Prop := ∃ d y, rd Γ1 r = some d ∧ fmtD d = some y ∧ Q (.val (.str y)) Γ1
theorem e_Fmt (h : ma Γ fun r Γ1 => fmk r Γ1 Q) : mFmt ma Γ Q := h
theorem e_fmtL {ds : List D} (h1 : rd Γ r = some (.lst ds)) (h2 : okR (.lst ds) = true) (h : Q (.val (.str (toPy (.lst ds)).shown)) Γ) : fmk r Γ Q := ⟨_, _, h1, if_pos h2, h⟩
theorem e_Joined (h : mJs ms Str.empty Γ fun y Γ1 => Q (.val (.str y)) Γ1) : mJoined ms Γ Q := h
theorem e_jsN {Qs : Str → Env → Prop} (h : Qs acc Γ) : mJs [] acc Γ Qs := h
def jsk (ms : List DTE) (acc : Str) (r : Res) (Γ1 : Env) (Qs : Str → Env → Prop) : Prop := ∃ y, r = .val (.str y) ∧ (acc ++ y).length ≤ 1000000 ∧ mJs ms (acc ++ y) Γ1 Qs
theorem e_Js {Qs : Str → Env → Prop} (h : m Γ fun r Γ1 => jsk ms acc r Γ1 Qs) : mJs (m :: ms) acc Γ Qs := h
theorem e_js {Qs : Str → Env → Prop} {y : Str} (h1 : (acc ++ y).length ≤ 1000000) (h : mJs ms (acc ++ y) Γ Qs) : jsk ms acc (.val (.str y)) Γ Qs := ⟨y, rfl, h1, h⟩
end
end DL
/-! the data layer, part 33: places are looked at as shared data while one expression that answers a plain value is read -/
namespace DL
open PySem PySem.Spec PyProof.Rows L2
def shS : Sl → Sl
  | .no => .no
  | .sh d => .sh d
  | .ow d => .sh d
  | .io d => .sh d
  | .bo d => .sh d
def allSh (Γ : Env) : Env := Γ.map shS
def scal : D → Bool
  | .non => true
  | .bl _ => true
  | .int _ => true
  | .str _ => true
  | _ => false
def mBor (me : DTE) : DTE := fun Γ Q => me (allSh Γ) fun r _ => ∃ d, r = .val d ∧ scal d = true ∧ Q (.val d) Γ
section
variable {Γ Γ' : Env} {Q : QE} {me : DTE}
def bok (Γ : Env) (Q : QE) (r : Res) : Prop := ∃ d, r = .val d ∧ scal d = true ∧ Q (.val d) Γ
theorem e_Bor (h1 : allSh Γ = Γ') (h : me Γ' fun r _ => bok Γ Q r) : mBor me Γ Q := by subst h1; exact h
theorem e_bor {d : D} (h1 : scal d = true) (h : Q (.val d) Γ) : bok Γ Q (.val d) := ⟨d, rfl, h1, h⟩
end
theorem i_addS {x y : Str} {Q : Res → Prop} (h1 : x.length + y.length ≤ 100000) (h : Q (.val (.str (x ++ y)))) : addD (.str x) (.str y) Q := ⟨h1, h⟩
theorem Ni.str {x : Str} {m : Nat} (h : PyData.strOk x = true) (hl : x.length ≤ m) : Ni 0 (10 * m + 5) (.str x) := ⟨by rw [niceD]; exact h, by simp [toPy, PyData.depth], by rw [wtD]; omega⟩
end DL
/-! the data layer, part 34: reversed, zip; new lists that are kept in a list, looked at, and spoiled in the end -/
namespace DL
open PySem PySem.Spec PyProof.Rows L2 RT
/-! ### reversed(e), e a list or a tuple -/
def mRev (ma : DTE) : DTI := fun Γ Q => ma Γ fun r Γ1 => ∃ d ds, rd Γ1 r = some d ∧ itemsOf d = some ds ∧ Q (srcOf d r) ds.reverse Γ1
/-! ### zip of two shared lists -/
def zipD (ds es : List D) : List D := List.zipWith (fun a b => D.tup [a, b]) ds es
def mZip (ma mb : DTE) : DTI := fun Γ Q => ma Γ fun r Γ1 => mb Γ1 fun r2 Γ2 => ∃ ds es, dat r = some (.lst ds) ∧ dat r2 = some (.lst es) ∧ Q (.v2 (.lst ds) (.lst es)) (zipD ds es) Γ2
/-! ### a box: what stands before stays, what is new is thrown away -/
def boxS : Sl → Sl
  | .no => .no
  | .sh d => .bo d
  | .ow d => .bo d
  | .io d => .bo d
  | .bo d => .bo d
/-- slots with true are used anew in the box -/
def boxE : List Bool → Env → Env
  | true :: bs, _ :: Γ => .no :: boxE bs Γ
  | false :: bs, s :: Γ => boxS s :: boxE bs Γ
  | _, _ => []
def killE : List Bool → Env → Env
  | true :: bs, _ :: Γ => .no :: killE bs Γ
  | false :: bs, s :: Γ => s :: killE bs Γ
  | _, _ => []
def freeE : List Bool → Env → Bool
  | [], [] => true
  | true :: bs, s :: Γ => freeB [s] 0 && freeE bs Γ
  | false :: bs, _ :: Γ => freeE bs Γ
  | _, _ => false
/-- a name that stays in the box -/
def mKept (i : Nat) : DTE := fun Γ Q => match Γ[i]? with
  | some (.bo d) => Q (.val d) Γ
  | some (.sh d) => Q (.val d) Γ
  | some (.ow _) => Q (.pl i) Γ
  | _ => False
/-! ### new lists in a list, looked at, then changed -/
def frsD : List Res → Option (List D)
  | [] => some []
  | .fr d :: rs => match frsD rs with
    | some ds => some (d :: ds)
    | none => none
  | _ => none
def lstsOk : List D → Prop
  | [] => True
  | d :: ds => (∃ xs, d = .lst xs ∧ xs.length < 100000) ∧ lstsOk ds
def mScr (f x : Nat) (mask : List Bool) (mp : DTP) (mm : DTS) : DTS := fun D Γ => mp Γ fun rs Γ1 => ∃ ds, frsD rs = some ds ∧ lstsOk ds ∧ ds.length ≤ 1000 ∧ freeE mask Γ1 = true ∧ mask[f]? = some true ∧ mask[x]? = some true ∧ f ≠ x ∧
  mm ⟨fun Γ3 => Γ3.length = Γ1.length ∧ D.nx (killE mask Γ1), fun r Γ3 => Γ3.length = Γ1.length ∧ ∃ d, r = .val d ∧ scal d = true ∧ D.rt (.val d) (killE mask Γ1), fun _ => False, fun _ => False⟩ ((boxE mask Γ1).set f (.bo (.lst ds)))
section
variable {Γ Γ' : Env} {nx bk ct : Env → Prop} {rt : Res → Env → Prop} {Q : QE} {d : D} {mp : DTP} {mm : DTS} {i f x : Nat} {mask : List Bool} {rs : List Res} {ds : List D}
theorem e_kb (h1 : Γ[i]? = some (.bo d)) (h : Q (.val d) Γ) : mKept i Γ Q := by unfold mKept; rw [h1]; exact h
theorem e_ks (h1 : Γ[i]? = some (.sh d)) (h : Q (.val d) Γ) : mKept i Γ Q := by unfold mKept; rw [h1]; exact h
theorem e_ko (h1 : Γ[i]? = some (.ow d)) (h : Q (.pl i) Γ) : mKept i Γ Q := by unfold mKept; rw [h1]; exact h
def sck2 (f x : Nat) (mask : List Bool) (mm : DTS) (nx : Env → Prop) (rt : Res → Env → Prop) (rs : List Res) (Γ1 : Env) : Prop := ∃ ds, frsD rs = some ds ∧ lstsOk ds ∧ ds.length ≤ 1000 ∧ freeE mask Γ1 = true ∧ mask[f]? = some true ∧ mask[x]? = some true ∧ f ≠ x ∧
  mm ⟨fun Γ3 => Γ3.length = Γ1.length ∧ nx (killE mask Γ1), fun r Γ3 => Γ3.length = Γ1.length ∧ ∃ d, r = .val d ∧ scal d = true ∧ rt (.val d) (killE mask Γ1), fun _ => False, fun _ => False⟩ ((boxE mask Γ1).set f (.bo (.lst ds)))
def bxn (Γ : Env) (p : Prop) : Env → Prop := fun Γ3 => Γ3.length = Γ.length ∧ p
def bxr (Γ : Env) (rt : Res → Env → Prop) (Γk : Env) : Res → Env → Prop := fun r Γ3 => Γ3.length = Γ.length ∧ ∃ d, r = .val d ∧ scal d = true ∧ rt (.val d) Γk
theorem b_nx {p : Prop} (h1 : Γ'.length = Γ.length) (h : p) : bxn Γ p Γ' := ⟨h1, h⟩
theorem b_rt {Γk : Env} (h1 : Γ'.length = Γ.length) (h2 : scal d = true) (h : rt (.val d) Γk) : bxr Γ rt Γk (.val d) Γ' := ⟨h1, d, rfl, h2, h⟩
theorem s_Scr (h : mp Γ fun rs Γ1 => sck2 f x mask mm nx rt rs Γ1) : mScr f x mask mp mm (.mk nx rt bk ct) Γ := h
theorem s_scr {Γk : Env} (h1 : frsD rs = some ds) (h2 : ds.length ≤ 1000) (h3 : freeE mask Γ = true) (h4 : mask[f]? = some true ∧ mask[x]? = some true ∧ f ≠ x) (h5 : killE mask Γ = Γk) (h6 : (boxE mask Γ).set f (.bo (.lst ds)) = Γ') (h0 : lstsOk ds)
    (h : mm (.mk (bxn Γ (nx Γk)) (bxr Γ rt Γk) (fun _ => False) (fun _ => False)) Γ') : sck2 f x mask mm nx rt rs Γ := by
  subst h5; subst h6
  exact ⟨ds, h1, h0, h2, h3, h4.1, h4.2.1, h4.2.2, h⟩
def rwk (r : Res) (Γ : Env) (Q : Src → List D → Env → Prop) : Prop := ∃ d ds, rd Γ r = some d ∧ itemsOf d = some ds ∧ Q (srcOf d r) ds.reverse Γ
theorem w_Rev {ma : DTE} {Q : Src → List D → Env → Prop} (h : ma Γ fun r Γ1 => rwk r Γ1 Q) : mRev ma Γ Q := h
theorem w_rvd {r : Res} {Q : Src → List D → Env → Prop} (h1 : rd Γ r = some d) (h2 : itemsOf d = some ds) (h : Q (srcOf d r) ds.reverse Γ) : rwk r Γ Q := ⟨_, _, h1, h2, h⟩
def zpk (r r2 : Res) (Γ : Env) (Q : Src → List D → Env → Prop) : Prop := ∃ ds es, dat r = some (.lst ds) ∧ dat r2 = some (.lst es) ∧ Q (.v2 (.lst ds) (.lst es)) (zipD ds es) Γ
theorem w_Zip {ma mb : DTE} {Q : Src → List D → Env → Prop} (h : ma Γ fun r Γ1 => mb Γ1 fun r2 Γ2 => zpk r r2 Γ2 Q) : mZip ma mb Γ Q := h
theorem w_zip {r r2 : Res} {es : List D} {Q : Src → List D → Env → Prop} (h1 : dat r = some (.lst ds)) (h2 : dat r2 = some (.lst es)) (h : Q (.v2 (.lst ds) (.lst es)) (zipD ds es) Γ) : zpk r r2 Γ Q := ⟨_, _, h1, h2, h⟩
end
end DL
/-! the data layer, part 35: passes of an outcome counted by pairs: plain mathematics -/
namespace DL
open PySem PySem.Spec PyProof.Rows L2
/-- how often two persons pass -/
def Fo (n : Nat) (o : List Int) (i j : Nat) : Nat := if i < j then ((ig o (j : Int) - ig o (i : Int)) / (n : Int)).natAbs else if j < i then ((ig o (i : Int) - ig o (j : Int)) / (n : Int)).natAbs else 0
def sumN (n : Nat) (f : Nat → Nat) : Nat := ((List.range n).map f).sum
def S2 (n : Nat) (o : List Int) : Nat := sumN n fun i => sumN n fun j => Fo n o i j
/-- the passes, as pass_count adds them -/
def pcN (n : Nat) (o : List Int) : Nat := sumN n fun j => sumN j fun i => ((ig o (j : Int) - ig o (i : Int)) / (n : Int)).natAbs
theorem sumN_succ (n : Nat) (f : Nat → Nat) : sumN (n + 1) f = sumN n f + f n := by
  unfold sumN
  rw [List.range_succ, List.map_append, List.sum_append, List.map_singleton, List.sum_singleton]
theorem sumN_congr {n : Nat} {f g : Nat → Nat} (h : ∀ i, i < n → f i = g i) : sumN n f = sumN n g := by
  unfold sumN
  congr 1
  exact List.map_congr_left fun i hi => h i (List.mem_range.mp hi)
theorem sumN_add (f g : Nat → Nat) : ∀ n : Nat, sumN n (fun i => f i + g i) = sumN n f + sumN n g
  | 0 => rfl
  | n + 1 => by rw [sumN_succ, sumN_succ, sumN_succ, sumN_add f g n]; omega
theorem sumN_zero : ∀ n : Nat, sumN n (fun _ => 0) = 0
  | 0 => rfl
  | n + 1 => by rw [sumN_succ, sumN_zero n]
theorem sumN_one {n a : Nat} (h : a < n) : sumN n (fun i => if i = a then 1 else 0) = 1 := by
  induction n with
  | zero => omega
  | succ n ih =>
    rw [sumN_succ]
    by_cases e : n = a
    · subst e
      rw [if_pos rfl, sumN_congr (g := fun _ => 0) fun i hi => if_neg (by omega), sumN_zero]
    · rw [if_neg e, ih (by omega)]
theorem nsum_perm {l m : List Nat} (h : l.Perm m) : l.sum = m.sum := by
  induction h with
  | nil => rfl
  | cons x _ ih => rw [List.sum_cons, List.sum_cons, ih]
  | swap x y l => simp only [List.sum_cons]; omega
  | trans _ _ a b => rw [a, b]
theorem tau_inj {n g p q : Nat} (h2 : 2 ≤ n) (hg : g < n) (h : tau n g p = tau n g q) : p = q := by
  rw [← tau_tau (p := p) h2 hg, h, tau_tau h2 hg]
theorem sumN_tau {n g : Nat} (h2 : 2 ≤ n) (hg : g < n) (f : Nat → Nat) : sumN n (fun i => f (tau n g i)) = sumN n f := by
  unfold sumN
  rw [show (List.range n).map (fun i => f (tau n g i)) = ((List.range n).map (tau n g)).map f by rw [List.map_map]; rfl]
  refine nsum_perm (List.Perm.map f ?_)
  have nd : ((List.range n).map (tau n g)).Nodup := by
    rw [List.nodup_iff_pairwise_ne, List.pairwise_map]
    refine List.Pairwise.imp ?_ (List.nodup_iff_pairwise_ne.mp List.nodup_range)
    intro a b hab e
    exact hab (tau_inj h2 hg e)
  refine (List.perm_ext_iff_of_nodup nd List.nodup_range).mpr fun a => ?_
  rw [List.mem_map, List.mem_range]
  constructor
  · rintro ⟨i, hi, rfl⟩
    exact tau_lt hg (List.mem_range.mp hi)
  · intro h
    exact ⟨tau n g a, List.mem_range.mpr (tau_lt hg h), tau_tau h2 hg⟩
theorem Fo_comm (n : Nat) (o : List Int) (i j : Nat) : Fo n o i j = Fo n o j i := by
  unfold Fo
  by_cases h : i < j
  · rw [if_pos h, if_neg (by omega), if_pos h]
  · by_cases h2 : j < i
    · rw [if_neg h, if_pos h2, if_pos h2]
    · rw [if_neg h, if_neg h2, if_neg h2, if_neg h]
theorem Fo_self (n : Nat) (o : List Int) (i : Nat) : Fo n o i i = 0 := by unfold Fo; rw [if_neg (Nat.lt_irrefl _), if_neg (Nat.lt_irrefl _)]
theorem S2_pc (n : Nat) (o : List Int) : S2 n o = 2 * pcN n o := by
  have key : ∀ m : Nat, (sumN m fun i => sumN m fun j => Fo n o i j) = 2 * sumN m fun j => sumN j fun i => ((ig o (j : Int) - ig o (i : Int)) / (n : Int)).natAbs := by
    intro m
    induction m with
    | zero => rfl
    | succ m ih =>
      have e1 : sumN m (fun i => sumN (m + 1) fun j => Fo n o i j) = (sumN m fun i => sumN m fun j => Fo n o i j) + sumN m fun i => Fo n o i m := by
        rw [← sumN_add]
        exact sumN_congr fun i _ => sumN_succ m _
      have e2 : (sumN m fun j => Fo n o m j) = sumN m fun i => Fo n o i m := sumN_congr fun j _ => Fo_comm n o m j
      have e3 : (sumN m fun i => Fo n o i m) = sumN m fun i => ((ig o (m : Int) - ig o (i : Int)) / (n : Int)).natAbs := sumN_congr fun i hi => by unfold Fo; rw [if_pos hi]
      rw [sumN_succ, sumN_succ m (fun j => sumN j fun i => ((ig o (j : Int) - ig o (i : Int)) / (n : Int)).natAbs), e1, sumN_succ m (fun j => Fo n o m j), Fo_self, ih, e2, e3]
      omega
  exact key n
/-- ⌊-x/n⌋ -/
theorem neg_ediv {n : Nat} (h : 0 < n) {x : Int} (hx : ¬ x % (n : Int) = 0) : (-x) / (n : Int) = -(x / n) - 1 := by
  have h0 := Int.emod_nonneg x (show (n : Int) ≠ 0 by omega)
  have h1 := Int.emod_lt_of_pos x (show (0 : Int) < n by omega)
  have h2 := Int.emod_add_mul_ediv x n
  have e : -x = (n - x % n) + (-(x / n) - 1) * n := by
    rw [Int.sub_mul, Int.neg_mul, Int.mul_comm (x / n) n]; omega
  rw [e, Int.add_mul_ediv_right _ _ (by omega), Int.ediv_eq_zero_of_lt (by omega) (by omega)]
  omega
section
variable {n : Nat} {o : List Int} (O : Out n o) (h2 : 2 ≤ n)
include O h2
theorem res_ne {i j : Nat} (hi : i < n) (hj : j < n) (hij : i ≠ j) : ¬ (ig o (j : Int) - ig o (i : Int)) % (n : Int) = 0 := fun z => hij (O.inj i j hi hj (sub_emod_zero z).symm)
/-- one pass less -/
theorem Fo_swap {g : Nat} (hg : g < n) (hp : ig o (nxP n g : Nat) + shP n g < ig o (g : Int)) {i j : Nat} (hi : i < n) (hj : j < n) :
    Fo n (swapT o g) i j + (if (i = g ∧ j = nxP n g) ∨ (i = nxP n g ∧ j = g) then 1 else 0) = Fo n o (tau n g i) (tau n g j) := by
  have key : ∀ i j : Nat, i < n → j < n → i < j → Fo n (swapT o g) i j + (if (i = g ∧ j = nxP n g) ∨ (i = nxP n g ∧ j = g) then 1 else 0) = Fo n o (tau n g i) (tau n g j) := by
    intro i j hi hj hij
    have hl := O.len
    have hx := nxP_lt (n := n) (g := g) (by omega)
    have e1 : Fo n (swapT o g) i j = ((ig (swapT o g) (j : Int) - ig (swapT o g) (i : Int)) / (n : Int)).natAbs := by unfold Fo; rw [if_pos hij]
    rw [e1, swapT_at hl hg, swapT_at hl hg]
    by_cases hc : g + 1 < n
    · have en : nxP n g = g + 1 := by unfold nxP; rw [if_pos hc]
      have es : shP n g = 0 := by unfold shP; rw [if_pos hc]
      rw [en, es] at hp ⊢
      unfold tau
      rw [en]
      by_cases hig : i = g
      · subst hig
        by_cases hjg : j = i + 1
        · subst hjg
          have r := res_ne O h2 (i := i) (j := i + 1) hi hj (by omega)
          have ee := neg_ediv (by omega) r
          have hq : 0 ≤ -(((ig o ((i + 1 : Nat) : Int) - ig o (i : Int)) / (n : Int))) - 1 := by
            rw [← ee]; exact Int.ediv_nonneg (by omega) (by omega)
          rw [if_pos rfl, if_neg (by omega), if_pos rfl, if_pos (.inl ⟨rfl, rfl⟩), if_neg (by omega), if_pos rfl, if_pos rfl]
          unfold Fo
          rw [if_neg (by omega), if_pos (by omega)]
          rw [show ig o (i : Int) - 0 - (ig o ((i + 1 : Nat) : Int) + 0) = -(ig o ((i + 1 : Nat) : Int) - ig o (i : Int)) by omega, ee]
          omega
        · rw [if_neg (by omega), if_neg (by omega), if_neg (by omega), if_pos rfl, if_neg (by omega), if_neg (by omega), if_pos rfl, if_neg (by omega), if_neg (by omega)]
          unfold Fo
          rw [if_pos (by omega), Int.add_zero]; rfl
      · by_cases hig1 : i = g + 1
        · subst hig1
          rw [if_neg (by omega), if_neg (by omega), if_pos rfl, if_neg (by omega), if_pos rfl, if_neg (by omega), if_neg (by omega)]
          unfold Fo
          rw [if_pos (by omega), Int.sub_zero]; rfl
        · by_cases hjg : j = g
          · subst hjg
            rw [if_neg (by omega), if_pos rfl, if_neg (by omega), if_neg (by omega), if_neg (by omega), if_neg (by omega), if_neg (by omega), if_neg (by omega), if_pos rfl]
            unfold Fo
            rw [if_pos (by omega), Int.add_zero]; rfl
          · by_cases hjg1 : j = g + 1
            · subst hjg1
              rw [if_pos rfl, if_neg (by omega), if_neg (by omega), if_neg (by omega), if_neg (by omega), if_neg (by omega), if_pos rfl]
              unfold Fo
              rw [if_pos (by omega), Int.sub_zero]; rfl
            · rw [if_neg (by omega), if_neg (by omega), if_neg (by omega), if_neg (by omega), if_neg (by omega), if_neg (by omega), if_neg (by omega), if_neg (by omega), if_neg (by omega)]
              unfold Fo
              rw [if_pos hij]; rfl
    · have eg : g = n - 1 := by omega
      have en : nxP n g = 0 := by unfold nxP; rw [if_neg hc]
      have es : shP n g = n := by unfold shP; rw [if_neg hc]
      rw [en, es] at hp ⊢
      unfold tau
      rw [en]
      have lap : ∀ x : Int, (x + n) / (n : Int) = x / n + 1 := fun x => by
        have := Int.add_mul_ediv_right x 1 (show (n : Int) ≠ 0 by omega)
        rw [Int.one_mul] at this; exact this
      by_cases hi0 : i = 0
      · subst hi0
        by_cases hjg : j = g
        · subst hjg
          rw [if_neg (by omega), if_pos rfl, if_pos rfl, if_pos (.inr ⟨rfl, rfl⟩), if_pos rfl, if_neg (by omega), if_pos rfl]
          have r := res_ne O h2 (i := 0) (j := j) hi hj (by omega)
          have ee := neg_ediv (by omega) r
          unfold Fo
          rw [if_neg (by omega), if_pos (by omega)]
          rw [show ig o ((0 : Nat) : Int) + n - (ig o (j : Int) - n) = -(ig o (j : Int) - ig o ((0 : Nat) : Int)) + n + n by omega, lap, lap, ee]
          have hq : 1 ≤ (ig o (j : Int) - ig o ((0 : Nat) : Int)) / (n : Int) := by
            rw [Int.le_ediv_iff_mul_le (by omega)]; omega
          omega
        · rw [if_neg (by omega), if_neg (by omega), if_pos rfl, if_neg (by omega), if_pos rfl, if_neg (by omega), if_neg (by omega)]
          have r := res_ne O h2 (i := g) (j := j) hg hj (by omega)
          have ee := neg_ediv (by omega) r
          unfold Fo
          rw [if_neg (by omega), if_pos (by omega)]
          rw [show ig o (j : Int) - (ig o (g : Int) - n) = ig o (j : Int) - ig o (g : Int) + n by omega, lap, show ig o (g : Int) - ig o (j : Int) = -(ig o (j : Int) - ig o (g : Int)) by omega, ee]
          omega
      · by_cases hjg : j = g
        · subst hjg
          rw [if_neg (by omega), if_pos rfl, if_neg (by omega), if_neg (by omega), if_neg (by omega), if_neg (by omega), if_neg (by omega), if_neg (by omega), if_pos rfl]
          have r := res_ne O h2 (i := i) (j := 0) hi (by omega) (by omega)
          have ee := neg_ediv (by omega) r
          unfold Fo
          rw [if_neg (by omega), if_pos (by omega)]
          rw [show ig o ((0 : Nat) : Int) + n - ig o (i : Int) = ig o ((0 : Nat) : Int) - ig o (i : Int) + n by omega, lap, show ig o (i : Int) - ig o ((0 : Nat) : Int) = -(ig o ((0 : Nat) : Int) - ig o (i : Int)) by omega, ee]
          omega
        · rw [if_neg (by omega), if_neg (by omega), if_neg (by omega), if_neg (by omega), if_neg (by omega), if_neg (by omega), if_neg (by omega), if_neg (by omega), if_neg (by omega)]
          unfold Fo
          rw [if_pos hij]; rfl
  rcases Nat.lt_trichotomy i j with h | h | h
  · exact key i j hi hj h
  · subst h
    have := nxP_ne h2 hg
    rw [Fo_self, Fo_self, if_neg (by omega)]
  · have k := key j i hj hi h
    rw [Fo_comm n (swapT o g) i j, Fo_comm n o (tau n g i) (tau n g j), ← k]
    congr 1
    by_cases hc : (i = g ∧ j = nxP n g) ∨ (i = nxP n g ∧ j = g)
    · rw [if_pos hc, if_pos (by omega)]
    · rw [if_neg hc, if_neg (by omega)]
theorem S2_swap {g : Nat} (hg : g < n) (hp : ig o (nxP n g : Nat) + shP n g < ig o (g : Int)) : S2 n (swapT o g) + 2 = S2 n o := by
  have hx := nxP_lt (n := n) (g := g) (by omega)
  have hne := nxP_ne h2 hg
  have e1 : (sumN n fun i => sumN n fun j => Fo n o (tau n g i) (tau n g j)) = S2 n o := by
    unfold S2
    rw [← sumN_tau h2 hg fun i => sumN n fun j => Fo n o i j]
    exact sumN_congr fun i _ => sumN_tau h2 hg fun j => Fo n o (tau n g i) j
  have e2 : (sumN n fun i => sumN n fun j => Fo n o (tau n g i) (tau n g j)) = S2 n (swapT o g) + sumN n fun i => sumN n fun j => if (i = g ∧ j = nxP n g) ∨ (i = nxP n g ∧ j = g) then 1 else 0 := by
    unfold S2
    rw [← sumN_add]
    refine sumN_congr fun i hi => ?_
    rw [← sumN_add]
    exact sumN_congr fun j hj => (Fo_swap O h2 hg hp hi hj).symm
  have e3 : (sumN n fun i => sumN n fun j => if (i = g ∧ j = nxP n g) ∨ (i = nxP n g ∧ j = g) then 1 else 0) = 2 := by
    have r : ∀ i, i < n → (sumN n fun j => if (i = g ∧ j = nxP n g) ∨ (i = nxP n g ∧ j = g) then 1 else 0) = (if i = g then 1 else 0) + if i = nxP n g then 1 else 0 := fun i _ => by
      by_cases h1 : i = g
      · subst h1
        rw [if_pos rfl, if_neg (Ne.symm hne)]
        rw [sumN_congr (g := fun j => if j = nxP n i then 1 else 0) fun j _ => by
          by_cases h : j = nxP n i
          · rw [if_pos h, if_pos (.inl ⟨rfl, h⟩)]
          · rw [if_neg h, if_neg (by omega)], sumN_one hx]
      · by_cases h3 : i = nxP n g
        · rw [if_neg h1, if_pos h3]
          rw [sumN_congr (g := fun j => if j = g then 1 else 0) fun j _ => by
            by_cases h : j = g
            · rw [if_pos h, if_pos (.inr ⟨h3, h⟩)]
            · rw [if_neg h, if_neg (by omega)], sumN_one hg]
        · rw [if_neg h1, if_neg h3, sumN_congr (g := fun _ => 0) fun j _ => if_neg (by omega), sumN_zero]
    rw [sumN_congr r, sumN_add, sumN_one hg, sumN_one hx]
  omega
end
/-! ### slices, any places -/
end DL
/-! the data layer, part 36: one statement that only looks at an own list, which is changed later -/
namespace DL
open PySem PySem.Spec PyProof.Rows L2
end DL
/-! the data layer, part 37: comprehensions with two for -/
namespace DL
open PySem PySem.Spec PyProof.Rows L2
theorem wipe_idem (τ : L2.St) : ∀ vs : List Nat, L2.wipe (L2.wipe τ vs) vs = L2.wipe τ vs := by
  intro ws
  induction ws with
  | nil => rfl
  | cons w ws ih =>
    show (L2.wipe ((L2.wipe τ ws).set w none) ws).set w none = (L2.wipe τ ws).set w none
    by_cases hww : w ∈ ws
    · rw [wipe_set hww, ih]
    · have comm : ∀ {us : List Nat} {τ' : L2.St}, w ∉ us → L2.wipe (τ'.set w none) us = (L2.wipe τ' us).set w none := fun {us τ'} => by
        induction us with
        | nil => intro _; rfl
        | cons u us ih2 =>
          intro hn
          unfold L2.wipe
          rw [ih2 fun z => hn (List.mem_cons_of_mem _ z)]
          exact List.set_comm _ _ (fun z => hn (by simp [z]))
      rw [comm hww, List.set_set, ih]
def comp2M (src : Src) (mg : DTG) (mt : DTT) (mi1 : DTI) (mg1 : DTG) (mt1 : DTT) (me : DTE) (vs vs1 : List Nat) (Q : List D → Env → Prop) : List D → List D → Env → Prop
  | [], acc, Γ => srcD Γ src ∧ Q acc Γ
  | x :: xs, acc, Γ => srcD Γ src ∧ okOwn Γ vs = true ∧ mg x (wipeD Γ vs) fun Γ2 => mt Γ2 fun b Γ3 =>
      if b = true then mi1 Γ3 fun src1 items1 Γ4 => compM src1 mg1 mt1 me vs1 (fun acc' Γ5 => comp2M src mg mt mi1 mg1 mt1 me vs vs1 Q xs acc' (restD Γ Γ5 vs)) items1 acc Γ4 else comp2M src mg mt mi1 mg1 mt1 me vs vs1 Q xs acc (restD Γ Γ3 vs)
def mComp2 (mi : DTI) (mg : DTG) (mt : DTT) (mi1 : DTI) (mg1 : DTG) (mt1 : DTT) (me : DTE) (vs vs1 : List Nat) : DTE := fun Γ Q => mi Γ fun src items Γ1 => comp2M src mg mt mi1 mg1 mt1 me vs vs1 (fun acc Γ2 => Q (.fr (.lst acc)) Γ2) items [] Γ1
section
variable {C : Ctx} {Γ : Env} {O : List Addr} {σ : L2.St} {H : Hp} {p : Addr} {o o' : HO}
theorem RelO.swapU (R : RelO { C with U := (p, o) :: C.U } Γ (p :: O) σ H) (h0 : C.H0 p = none) (hU : ∀ q ∈ C.U, q.1 ≠ p) : RelO { C with U := (p, o') :: C.U } Γ (p :: O) σ (upd H p o') := by
  have hm := (R.uu _ List.mem_cons_self).2.2
  have RC : RelO C Γ (p :: O) σ H := R.backU fun q hq => List.mem_cons_of_mem _ hq
  have Ru := RC.updFree (o := o') List.mem_cons_self h0 hm hU
  refine Ru.congrU fun q hq => ?_
  rcases List.mem_cons.mp hq with z | z
  · subst z; exact ⟨upd_same, List.mem_cons_self, hm⟩
  · exact Ru.uu q z
theorem SrcOk.congrU {U U' : List (Addr × HO)} {g : List Addr → Hp → Prop} {src : Src} (h : SrcOk { C with U := U } Γ O σ H g src) : SrcOk { C with U := U' } Γ O σ H g src := by
  cases src <;> exact h
/-- the turn's target: a value that is yielded -/
theorem ItD_yld {C : Ctx} {J : It} {n : Nat} {gg : List Addr → Hp → Prop} {items : List D} {Γi : Env} {Dd : Addr} {O : List Addr} {σ : L2.St} {Hc H' : Hp} {i : Nat} {x : V} {U : List (Addr × HO)} (itd : ItD C.K J n gg items) (Ri : RelO { C with U := U } Γi (Dd :: O) σ Hc) (gi : gg (Dd :: O) Hc) (hlt : i < n) (hil : i < items.length) (y : J.yld i Hc x H') :
    RelO { C with U := U } Γi (Dd :: O) σ H' ∧ Rep C.K (hide (Dd :: O) H') x items[i] ∧ Same (hide (Dd :: O) Hc) (hide (Dd :: O) H') := by
  obtain ⟨d, hd, hx⟩ := itd.yld i _ _ x H' gi hlt y
  have hdi : d = items[i] := by
    rw [List.getElem?_eq_getElem hil] at hd
    exact (Option.some.inj hd).symm
  rw [← hdi]
  rcases hx with ⟨rfl, hx⟩ | ⟨p, pvs, pds, rfl, hp, rfl, hr, rfl⟩
  · exact ⟨Ri, hx, L2.Same.refl _⟩
  · exact ⟨Ri.alloc hp, .tup (by rw [hide_out (Ri.notin hp)]; exact upd_same) (hr.mono (hide_new hp)), hide_new hp⟩
end
section
variable {C : Ctx}
theorem sim_comp2 {wi wi1 : TI} {g g1 : TG} {tt tt1 : TT} {te : TE} {vs vs1 : List Nat} {mi mi1 : DTI} {mg mg1 : DTG} {mt mt1 : DTT} {me : DTE} (hi : SimI C wi mi) (hg : ∀ U, SimG { C with U := U } g mg) (hgo : OwnG g vs) (ht : ∀ U, SimT { C with U := U } tt mt) (hi1 : ∀ U, SimI { C with U := U } wi1 mi1) (hg1 : ∀ U, SimG { C with U := U } g1 mg1) (hgo1 : OwnG g1 vs1) (ht1 : ∀ U, SimT { C with U := U } tt1 mt1) (he : ∀ U, SimE { C with U := U } te me)
    (hgm : ∀ (v : V) (σ : L2.St) (H : Hp) (Q Q' : L2.St → Hp → Prop), (∀ σ H, Q σ H → Q' σ H) → g v σ H Q → g v σ H Q') (hgm1 : ∀ (v : V) (σ : L2.St) (H : Hp) (Q Q' : L2.St → Hp → Prop), (∀ σ H, Q σ H → Q' σ H) → g1 v σ H Q → g1 v σ H Q') : SimE C (tLc2 wi g tt wi1 g1 tt1 te vs vs1) (mComp2 mi mg mt mi1 mg1 mt1 me vs vs1) := fun Γ O σ H Qd Q R h k => by
  refine hi Γ O σ H _ _ R h fun src items Γ1 J H1 n gg R1 e1 itd sok q => ?_
  intro Dd hD
  have h0 : C.H0 Dd = none := R1.fresh0 hD
  have hDO : Dd ∉ O := R1.notin hD
  have hU : ∀ q ∈ C.U, q.1 ≠ Dd := fun q hq => ne_of_none (R1.uu q hq).1 hD
  have hM1 : ∀ i, ¬ MutAt Γ1 σ i Dd := fun i hm => hDO (R1.mutIn hm)
  let QQ : List D → Env → Prop := fun acc Γ2 => Qd (.fr (.lst acc)) Γ2
  let Wp : Nat → Nat → Hp → Prop := fun i m Hc => m = n - i ∧ i ≤ n ∧ ∃ (acc : List D) (vacc : List V) (Γi : Env), RelO { C with U := (Dd, .lst vacc) :: C.U } Γi (Dd :: O) σ Hc ∧ Same (hide O H1) (hide (Dd :: O) Hc) ∧ Reps C.K (hide (Dd :: O) Hc) vacc acc ∧
    comp2M src mg mt mi1 mg1 mt1 me vs vs1 QQ (items.drop i) acc Γi
  refine ⟨Wp, ⟨n, by simp, Nat.zero_le _, [], [], Γ1, ?_, hide_newO hD, .nil, q⟩, ?_⟩
  · refine (R1.allocO hD).congrU fun q hq => ?_
    rcases List.mem_cons.mp hq with z | z
    · subst z; exact ⟨upd_same, List.mem_cons_self, hM1⟩
    · exact (R1.allocO hD).uu q z
  rintro i m Hc ⟨rfl, hin, acc, vacc, Γi, Ri, ei, ri, qi⟩
  have RC : RelO C Γi (Dd :: O) σ Hc := Ri.backU fun q hq => List.mem_cons_of_mem _ hq
  have hDc : Hc Dd = some (.lst vacc) := (Ri.uu _ List.mem_cons_self).1
  have hDm : ∀ i, ¬ MutAt Γi σ i Dd := (Ri.uu _ List.mem_cons_self).2.2
  by_cases hlt : i < n
  · have hil : i < items.length := by rw [itd.len]; exact hlt
    have ed : items.drop i = items[i] :: items.drop (i + 1) := List.drop_eq_getElem_cons hil
    rw [ed] at qi
    obtain ⟨hs, hk, qi⟩ := qi
    have gi : gg (Dd :: O) Hc := sok.at ei RC hs
    refine .inr ⟨itd.go i _ _ gi hlt, fun H' => Wp (i + 1) (n - (i + 1)) H', fun H' w => ⟨n - (i + 1), by omega, w⟩, fun x H' y => ?_⟩
    obtain ⟨R', r', e'⟩ := ItD_yld itd Ri gi hlt hil y
    refine hgm _ _ _ _ _ (fun σ2 H2 q2 => ?_) (hgo _ _ _ _ (hg _ (wipeD Γi vs) (Dd :: O) (L2.wipe σ vs) H' x items[i] _ (fun σ2 H2 => ∃ Γ2, RelO { C with U := (Dd, .lst vacc) :: C.U } Γ2 (Dd :: O) σ2 H2 ∧ Same (hide (Dd :: O) H') (hide (Dd :: O) H2) ∧ mt Γ2 fun b Γ3 =>
        if b = true then mi1 Γ3 fun src1 items1 Γ4 => compM src1 mg1 mt1 me vs1 (fun acc' Γ5 => comp2M src mg mt mi1 mg1 mt1 me vs vs1 QQ (items.drop (i + 1)) acc' (restD Γi Γ5 vs)) items1 acc Γ4 else comp2M src mg mt mi1 mg1 mt1 me vs vs1 QQ (items.drop (i + 1)) acc (restD Γi Γ3 vs))
        (R'.wipe hk) r' qi fun Γ2 σ2 H2 R2 e2 q2 => ⟨Γ2, R2, e2, q2⟩))
    obtain ⟨hw, Γ2, R2, e2, q2⟩ := q2
    have hw' : L2.wipe σ2 vs = L2.wipe σ vs := hw.trans (wipe_idem σ vs)
    refine ⟨hw', ?_⟩
    refine ht _ Γ2 (Dd :: O) σ2 H2 _ _ R2 q2 fun b Γ3 H3 R3 e3 q3 => ?_
    have eAll3 := L2.Same.trans ei (L2.Same.trans e' (L2.Same.trans e2 e3))
    cases b with
    | true =>
      refine hi1 _ Γ3 (Dd :: O) σ2 H3 _ _ R3 q3 fun src1 items1 Γ4 J1 H4 n1 gg1 R4 e4 itd1 sok1 q4 => ?_
      have eB : Same (hide (Dd :: O) H') (hide (Dd :: O) H4) := L2.Same.trans e2 (L2.Same.trans e3 e4)
      let W1 : Nat → Nat → Hp → Prop := fun j m Hj => m = n1 - j ∧ j ≤ n1 ∧ ∃ (acc : List D) (vacc : List V) (Γj : Env), RelO { C with U := (Dd, .lst vacc) :: C.U } Γj (Dd :: O) σ2 Hj ∧ Same (hide (Dd :: O) H4) (hide (Dd :: O) Hj) ∧ Reps C.K (hide (Dd :: O) Hj) vacc acc ∧
        compM src1 mg1 mt1 me vs1 (fun acc' Γ5 => comp2M src mg mt mi1 mg1 mt1 me vs vs1 QQ (items.drop (i + 1)) acc' (restD Γi Γ5 vs)) (items1.drop j) acc Γj
      refine ⟨W1, ⟨n1, by simp, Nat.zero_le _, acc, vacc, Γ4, R4, L2.Same.refl _, ri.mono (L2.Same.trans e' eB), q4⟩, ?_⟩
      rintro j m Hj ⟨rfl, hjn, acj, vacj, Γj, Rj, ej, rj, qj⟩
      have sok1' : SrcOk { C with U := (Dd, .lst vacj) :: C.U } Γ4 (Dd :: O) σ2 H4 gg1 src1 := sok1.congrU
      by_cases hlj : j < n1
      · have hjl : j < items1.length := by rw [itd1.len]; exact hlj
        have ed1 : items1.drop j = items1[j] :: items1.drop (j + 1) := List.drop_eq_getElem_cons hjl
        rw [ed1] at qj
        obtain ⟨hsj, hkj, qj⟩ := qj
        have gj : gg1 (Dd :: O) Hj := sok1'.at ej Rj hsj
        refine .inr ⟨itd1.go j _ _ gj hlj, fun H' => W1 (j + 1) (n1 - (j + 1)) H', fun H' w => ⟨n1 - (j + 1), by omega, w⟩, fun z Hz y1 => ?_⟩
        obtain ⟨Rz, rz, ez⟩ := ItD_yld (C := C) itd1 Rj gj hlj hjl y1
        refine hgm1 _ _ _ _ _ (fun σ3 H5 q5 => ?_) (hgo1 _ _ _ _ (hg1 _ (wipeD Γj vs1) (Dd :: O) (L2.wipe σ2 vs1) Hz z items1[j] _ (fun σ3 H5 => ∃ Γ5, RelO { C with U := (Dd, .lst vacj) :: C.U } Γ5 (Dd :: O) σ3 H5 ∧ Same (hide (Dd :: O) Hz) (hide (Dd :: O) H5) ∧ mt1 Γ5 fun b Γ6 =>
            if b = true then me Γ6 fun r Γ7 => ∃ d, dat r = some d ∧ acj.length < 100000 ∧ compM src1 mg1 mt1 me vs1 (fun acc' Γ5 => comp2M src mg mt mi1 mg1 mt1 me vs vs1 QQ (items.drop (i + 1)) acc' (restD Γi Γ5 vs)) (items1.drop (j + 1)) (acj ++ [d]) (restD Γj Γ7 vs1) else compM src1 mg1 mt1 me vs1 (fun acc' Γ5 => comp2M src mg mt mi1 mg1 mt1 me vs vs1 QQ (items.drop (i + 1)) acc' (restD Γi Γ5 vs)) (items1.drop (j + 1)) acj (restD Γj Γ6 vs1))
            (Rz.wipe hkj) rz qj fun Γ5 σ3 H5 R5 e5 q5 => ⟨Γ5, R5, e5, q5⟩))
        obtain ⟨hw1, Γ5, R5, e5, q5⟩ := q5
        have hw1' : L2.wipe σ3 vs1 = L2.wipe σ2 vs1 := hw1.trans (wipe_idem σ2 vs1)
        refine ⟨hw1', ?_⟩
        refine ht1 _ Γ5 (Dd :: O) σ3 H5 _ _ R5 q5 fun b Γ6 H6 R6 e6 q6 => ?_
        have eAll6 := L2.Same.trans ej (L2.Same.trans ez (L2.Same.trans e5 e6))
        cases b with
        | true =>
          refine he _ Γ6 (Dd :: O) σ3 H6 _ _ R6 q6 fun r Γ7 w H7 R7 e7 q7 => ?_
          obtain ⟨dy, hdy, hacc, q7⟩ := q7
          have ry : Rep C.K (hide (Dd :: O) H7) w dy := R7.pend.dat hdy
          have hD7 : H7 Dd = some (.lst vacj) := (R7.rel.uu _ List.mem_cons_self).1
          have e8 : hide (Dd :: O) (upd H7 Dd (.lst (vacj ++ [w]))) = hide (Dd :: O) H7 := hide_mut List.mem_cons_self
          have racc : Reps C.K (hide (Dd :: O) H7) vacj acj := rj.mono (L2.Same.trans ez (L2.Same.trans e5 (L2.Same.trans e6 e7.1)))
          refine ⟨vacj, hD7, by rw [racc.length]; exact Nat.lt_of_lt_of_le hacc (by decide), rfl, hlj, acj ++ [dy], vacj ++ [w], restD Γj Γ7 vs1, ?_, ?_, ?_, q7⟩
          · exact (Rz.rest (L2.Same.trans e5 (L2.Same.trans e6 e7.1)) R7.rel hw1' hkj).swapU h0 hU
          · rw [e8]; exact L2.Same.trans eAll6 e7.1
          · rw [e8]; exact racc.append (.cons ry .nil)
        | false =>
          exact ⟨rfl, hlj, acj, vacj, restD Γj Γ6 vs1, Rz.rest (L2.Same.trans e5 e6) R6 hw1' hkj, eAll6, rj.mono (L2.Same.trans ez (L2.Same.trans e5 e6)), q6⟩
      · have e : j = n1 := by omega
        subst e
        rw [List.drop_of_length_le (l := items1) (by rw [itd1.len]; exact Nat.le_refl _)] at qj
        obtain ⟨hsj, qj⟩ := qj
        refine .inl ⟨itd1.stop _ _ (sok1'.at ej Rj hsj), rfl, hlt, acj, vacj, restD Γi Γj vs, ?_, L2.Same.trans ei (L2.Same.trans e' (L2.Same.trans eB ej)), rj, qj⟩
        have R'' : RelO { C with U := (Dd, .lst vacj) :: C.U } Γi (Dd :: O) σ (upd H' Dd (.lst vacj)) := R'.swapU h0 hU
        have e9 : hide (Dd :: O) (upd H' Dd (.lst vacj)) = hide (Dd :: O) H' := hide_mut List.mem_cons_self
        exact R''.rest (by rw [e9]; exact L2.Same.trans eB ej) Rj hw' hk
    | false =>
      exact ⟨rfl, hlt, acc, vacc, restD Γi Γ3 vs, R'.rest (L2.Same.trans e2 e3) R3 hw' hk, eAll3, ri.mono (L2.Same.trans e' (L2.Same.trans e2 e3)), q3⟩
  · have e : i = n := by omega
    subst e
    rw [List.drop_of_length_le (by rw [itd.len]; exact Nat.le_refl _)] at qi
    obtain ⟨hs, qi⟩ := qi
    refine .inl ⟨itd.stop _ _ (sok.at ei RC hs), ?_⟩
    obtain ⟨RO, eO⟩ := RC.letgo (O' := O) h0 hDm hU fun a => ⟨fun ha => ⟨List.mem_cons_of_mem _ ha, fun z => hDO (z ▸ ha)⟩, fun ha => (List.mem_cons.mp ha.1).resolve_left ha.2⟩
    exact k (.fr (.lst acc)) Γi (.ref Dd) Hc ⟨RO, Dd, .lst vacc, rfl, hDc, hDO, h0, .lst ri, RC⟩ (.fr (L2.Same.trans e1 ei)) qi
end
section
variable {X : Cx} {C : Ctx} {elt tg iter tg1 iter1 : Expr} {pos : Pos} {wi wi1 : TI} {g g1 : TG} {tt tt1 : TT} {te : TE} {mi mi1 : DTI} {mg mg1 : DTG} {mt mt1 : DTT} {me : DTE} {ifs ifs1 : List Expr} {scope : Scope} {own : List (Str × Nat)} {vs1 : List Nat}
/-- the parts of a comprehension with two for -/
structure DL2 (X : Cx) (C : Ctx) (elt tg iter : Expr) (ifs : List Expr) (tg1 iter1 : Expr) (ifs1 : List Expr) (scope : Scope) (own : List (Str × Nat)) (vs1 : List Nat) (wi : TI) (g : TG) (tt : TT) (wi1 : TI) (g1 : TG) (tt1 : TT) (te : TE) (mi : DTI) (mg : DTG) (mt : DTT) (mi1 : DTI) (mg1 : DTG) (mt1 : DTT) (me : DTE) : Prop where
  calm : X.calm = true
  nd : X.N.Nodup
  hi : DI X C tg iter wi mi
  ok : BlkOk X.N X.env.scope scope own
  hv : ∀ i ∈ vs1, i ∈ own.map (·.2)
  hg : ∀ (U : List (Addr × HO)) (s : Shared) (H : Hp) (A : Addr) (cl : List (Str × Addr)) (fp : List Addr), DG (X.blk s H scope (compEnvC scope cl A X.env) fp) { C with U := U } tg g mg
  hgo : OwnG g (own.map (·.2))
  hgm : ∀ (v : V) (σ : L2.St) (H : Hp) (Q Q' : L2.St → Hp → Prop), (∀ σ H, Q σ H → Q' σ H) → g v σ H Q → g v σ H Q'
  ht : ∀ (U : List (Addr × HO)) (s : Shared) (H : Hp) (A : Addr) (cl : List (Str × Addr)) (fp : List Addr), DF (X.blk s H scope (compEnvC scope cl A X.env) fp) { C with U := U } ifs tt mt
  hi1 : ∀ (U : List (Addr × HO)) (s : Shared) (H : Hp) (A : Addr) (cl : List (Str × Addr)) (fp : List Addr), DI (X.blk s H scope (compEnvC scope cl A X.env) fp) { C with U := U } tg1 iter1 wi1 mi1
  hg1 : ∀ (U : List (Addr × HO)) (s : Shared) (H : Hp) (A : Addr) (cl : List (Str × Addr)) (fp : List Addr), DG (X.blk s H scope (compEnvC scope cl A X.env) fp) { C with U := U } tg1 g1 mg1
  hgo1 : OwnG g1 vs1
  hgm1 : ∀ (v : V) (σ : L2.St) (H : Hp) (Q Q' : L2.St → Hp → Prop), (∀ σ H, Q σ H → Q' σ H) → g1 v σ H Q → g1 v σ H Q'
  ht1 : ∀ (U : List (Addr × HO)) (s : Shared) (H : Hp) (A : Addr) (cl : List (Str × Addr)) (fp : List Addr), DF (X.blk s H scope (compEnvC scope cl A X.env) fp) { C with U := U } ifs1 tt1 mt1
  he : ∀ (U : List (Addr × HO)) (s : Shared) (H : Hp) (A : Addr) (cl : List (Str × Addr)) (fp : List Addr), DE (X.blk s H scope (compEnvC scope cl A X.env) fp) { C with U := U } elt te me
theorem DL2.sim (h : DL2 X C elt tg iter ifs tg1 iter1 ifs1 scope own vs1 wi g tt wi1 g1 tt1 te mi mg mt mi1 mg1 mt1 me) (s : Shared) : SimE C (tLc2 wi g tt wi1 g1 tt1 te (own.map (·.2)) vs1) (mComp2 mi mg mt mi1 mg1 mt1 me (own.map (·.2)) vs1) :=
  sim_comp2 h.hi.sim (fun U => (h.hg U s (fun _ => none) 0 [] []).sim) h.hgo (fun U => (h.ht U s (fun _ => none) 0 [] []).sim) (fun U => (h.hi1 U s (fun _ => none) 0 [] []).sim) (fun U => (h.hg1 U s (fun _ => none) 0 [] []).sim) h.hgo1 (fun U => (h.ht1 U s (fun _ => none) 0 [] []).sim) (fun U => (h.he U s (fun _ => none) 0 [] []).sim) h.hgm h.hgm1
end
section
variable {src : Src} {mi mi1 : DTI} {mg mg1 : DTG} {mt mt1 : DTT} {me : DTE} {vs vs1 : List Nat}
theorem w_Comp2 {Γ : Env} {Q : QE} (h : mi Γ fun src items Γ1 => comp2M src mg mt mi1 mg1 mt1 me vs vs1 (fun acc Γ2 => Q (.fr (.lst acc)) Γ2) items [] Γ1) : mComp2 mi mg mt mi1 mg1 mt1 me vs vs1 Γ Q := h
end
end DL
/-! the data layer, part 38: calls with keywords -/
namespace DL
open PySem PySem.Spec PyProof.Rows L2
end DL
/-! the data layer, part 39: exceptions -/
namespace DL
open PySem PySem.Spec PyProof.Rows L2
/-- what must hold where an exception arises: its class by name, its fields, the slots -/
abbrev Dwx := Str → List (Str × D) → Env → Prop
abbrev noW : Dwx := fun _ _ _ => False
abbrev emH : Hp := fun _ => none
/-- the dict of an exception in the air, amid a def's body -/
def XdAt (C : Ctx) (H : Hp) (d : Option Addr) (fds : List (Str × D)) : Prop := (d = none ∧ fds = []) ∨ ∃ dx fvs, d = some dx ∧ C.H0 dx = none ∧ H dx = some (.xd fvs) ∧ fvs.map (·.1) = fds.map (·.1) ∧ Reps C.K emH (fvs.map (·.2)) (fds.map (·.2))
structure WLink (C : Ctx) (W : WX) (Wd : Dwx) : Prop where
  go : ∀ n c d fds Γ O σ H, RelO C Γ O σ H → XNm C.K n c → XdAt C H d fds → Wd n fds Γ → W (.ref c) d σ H
theorem WLink.no {C : Ctx} {W : WX} : WLink C W noW := ⟨fun _ _ _ _ _ _ _ _ _ _ _ h => h.elim⟩
/-! ### calls that may raise -/
def mCallX (Wd : Dwx) (ms : List Md) (sd : DSp) (ma : DTA) : DTE := fun Γ Q => ma Γ fun rs Γ1 => ∃ ds, argsD Γ1 ms rs = some ds ∧ apartB ms rs = true ∧
  sd ds (fun b d ds' => ∃ Γ2, putsD (mPls ms rs) ds' Γ1 = some Γ2 ∧ Q (if b = true then .fr d else .val d) Γ2) (fun n fds ds' => ∃ Γ2, putsD (mPls ms rs) ds' Γ1 = some Γ2 ∧ Wd n fds Γ2)
/-! ### a def that may raise -/
def wEnd (ms : List Md) (Ed : EdT) : Dwx := fun n fds Γ => Ed n fds (iosD ms Γ)
end DL
/-! the data layer, part 40: raise, try .. except -/
namespace DL
open PySem PySem.Spec PyProof.Rows L2
/-! ### own exception classes that keep their arguments as fields -/
abbrev flds (fs : List Str) {α : Type} (vs : List α) : List (Str × α) := (fs.zip vs).reverse
/-- raise C(..) -/
def mRaise (Wd : Dwx) (n : Str) (fs : List Str) (ma : DTA) : DTS := fun D Γ => ma Γ fun rs Γ1 => ∃ ds, dats rs = some ds ∧ ds.length = fs.length ∧ fs.length ≤ 100 ∧ ds.all scal = true ∧ Wd n (flds fs ds) Γ1
/-! ### try .. except C as e -/
/-- which classes an except clause takes -/
def XEx (K : Fg) (C0 : Addr) (tab : List (Str × Bool)) : Prop := ∀ n b, tab.lookup n = some b → ∀ c, XNm K n c → PySem.W.exmOne K (.ref c) (.ref C0) = some b
def mTryAs (i : Nat) (tab : List (Str × Bool)) (mb : Dwx → DTS) (ms : Str → List (Str × D) → Addr → DTS) (Wd : Dwx) : DTS := fun D Γ => mb (fun n fds Γ1 => ∃ b, tab.lookup n = some b ∧
  (b = true → freeB Γ1 i = true ∧ ∀ a, ms n fds a ⟨fun Γ' => freeB Γ' i = true ∧ D.nx (Γ'.set i .no), D.rt, fun Γ' => freeB Γ' i = true ∧ D.bk (Γ'.set i .no), fun Γ' => freeB Γ' i = true ∧ D.ct (Γ'.set i .no)⟩ (Γ1.set i (.sh (.cls a)))) ∧ (b = false → Wd n fds Γ1)) D Γ
def mTry (tab : List (Str × Bool)) (mb : Dwx → DTS) (ms : Str → List (Str × D) → Addr → DTS) (Wd : Dwx) : DTS := fun D Γ => mb (fun n fds Γ1 => ∃ b, tab.lookup n = some b ∧ (b = true → ∀ a, ms n fds a D Γ1) ∧ (b = false → Wd n fds Γ1)) D Γ
section
variable {K : Fg} {H H' : Hp}
/-- the same but for dicts of exceptions -/
def SameX (H H' : Hp) : Prop := ∀ b o, H b = some o → (∀ fv, o ≠ .xd fv) → H' b = some o
theorem SameX.seq (e : SameX H H') {a : Addr} {xs : List V} (h : SqL K H a xs) : SqL K H' a xs := by
  rcases h with (h | ⟨o, h⟩) | h
  · exact .inl (.inl (e _ _ h fun _ z => by cases z))
  · exact .inl (.inr ⟨o, e _ _ h fun _ z => by cases z⟩)
  · exact .inr h
end
/-! ### in the suite -/
/-- what the classes must be, so that their instances are asked and read -/
def XIs (K : Fg) (T : Value) (tab : List (Str × Bool)) : Prop := ∀ n b, tab.lookup n = some b → ∀ c, XNm K n c → ExcC K c ∧ PySem.W.kitOne K (.ref c) T = some b
def XFd (K : Fg) (f : Str) (ns : List Str) : Prop := ∀ n, n ∈ ns → ∀ c, XNm K n c → XfC K c ∧ PySem.W.findIn K (.ref c) f = some none
def mXis (n : Str) (a : Addr) (tab : List (Str × Bool)) (mo : DTE) : DTE := fun Γ Q => mo Γ fun r Γ1 => r = .val (.cls a) ∧ ∃ b, tab.lookup n = some b ∧ Q (.val (.bl b)) Γ1
def mXf (n : Str) (fds : List (Str × D)) (a : Addr) (f : Str) (ns : List Str) (mo : DTE) : DTE := fun Γ Q => mo Γ fun r Γ1 => r = .val (.cls a) ∧ n ∈ ns ∧ ∃ d, fds.lookup f = some d ∧ Q (.val d) Γ1
end DL
/-! the data layer, part 41: exceptions: tables of classes, defaults, steps -/
namespace DL
open PySem PySem.Spec PyProof.Rows L2
/-! ### tables -/
section
variable {K : Fg} {N f : Str} {C C0 : Addr} {T : Value} {b : Bool} {tab : List (Str × Bool)} {ns : List Str}
theorem XNm.inj {c c' : Addr} (h : XNm K N c) (h' : XNm K N c') : c = c' := by
  have e : some (some (Value.ref c)) = some (some (Value.ref c')) := h.symm.trans h'
  exact Value.ref.inj (Option.some.inj (Option.some.inj e))
theorem XEx.nil : XEx K C0 [] := fun _ _ h => by cases h
theorem XEx.cons (hN : XNm K N C) (h1 : PySem.W.exmOne K (.ref C) (.ref C0) = some b) (t : XEx K C0 tab) : XEx K C0 ((N, b) :: tab) := fun n b' h c hc => by
  rw [List.lookup_cons] at h
  cases e : n == N with
  | true =>
    rw [e] at h
    have e : n = N := eq_of_beq e
    subst e
    cases h
    rw [hc.inj hN]; exact h1
  | false => rw [e] at h; exact t n b' h c hc
theorem XIs.nil : XIs K T [] := fun _ _ h => by cases h
theorem XIs.cons (hN : XNm K N C) (hE : ExcC K C) (h1 : PySem.W.kitOne K (.ref C) T = some b) (t : XIs K T tab) : XIs K T ((N, b) :: tab) := fun n b' h c hc => by
  rw [List.lookup_cons] at h
  cases e : n == N with
  | true =>
    rw [e] at h
    have e : n = N := eq_of_beq e
    subst e
    cases h
    rw [hc.inj hN]; exact ⟨hE, h1⟩
  | false => rw [e] at h; exact t n b' h c hc
theorem XFd.nil : XFd K f [] := fun _ h => by cases h
theorem XFd.cons (hN : XNm K N C) (hE : XfC K C) (h1 : PySem.W.findIn K (.ref C) f = some none) (t : XFd K f ns) : XFd K f (N :: ns) := fun n h c hc => by
  rcases List.mem_cons.mp h with e | h
  · subst e
    rw [hc.inj hN]; exact ⟨hE, h1⟩
  · exact t n h c hc
end
/-! ### arguments that are left to their defaults -/
def mSnoc (ma : DTA) (ds : List D) : DTA := fun Γ Q => ma Γ fun rs Γ1 => Q (rs ++ ds.map Res.val) Γ1
theorem Pends.append {K : Fg} {O : List Addr} {σ : L2.St} {H : Hp} : ∀ {vs ws : List V} {rs qs : List Res}, Pends K O σ H vs rs → Pends K O σ H ws qs → Pends K O σ H (vs ++ ws) (rs ++ qs)
  | _, _, _, _, .nil, s => s
  | _, _, _, _, .cons h r, s => .cons h (Pends.append r s)
/-! ### try .. except C: without a name -/
/-! ### steps -/
section
variable {Γ Γ' Γ1 : Env} {Q : QE} {i : Nat} {d : D} {ma mo : DTE} {mr : DTA} {r : Res} {rs : List Res} {ds : List D} {b : Bool} {Wd : Dwx} {n f : Str} {fs ns : List Str} {fds : List (Str × D)} {nx bk ct : Env → Prop} {rt : Res → Env → Prop} {tab : List (Str × Bool)} {mb : Dwx → DTS} {mz : Str → List (Str × D) → Addr → DTS} {a : Addr}
def xtk (is : List Nat) (Γ : Env) (Wd : Dwx) : EdT := fun n fds ds' => ∃ Γ2, putsD is ds' Γ = some Γ2 ∧ Wd n fds Γ2
def clkX (Wd : Dwx) (ms : List Md) (sd : DSp) (Γ : Env) (rs : List Res) (Q : QE) : Prop := ∃ ds, argsD Γ ms rs = some ds ∧ apartB ms rs = true ∧ sd ds (fun b d ds' => ∃ Γ2, putsD (mPls ms rs) ds' Γ = some Γ2 ∧ Q (if b = true then .fr d else .val d) Γ2) (fun n fds ds' => ∃ Γ2, putsD (mPls ms rs) ds' Γ = some Γ2 ∧ Wd n fds Γ2)
theorem e_CallX {ms : List Md} {sd : DSp} (h : mr Γ fun rs Γ1 => clkX Wd ms sd Γ1 rs Q) : mCallX Wd ms sd mr Γ Q := h
theorem e_callX {ms : List Md} {sd : DSp} {is : List Nat} (h1 : argsD Γ ms rs = some ds) (h2 : apartB ms rs = true) (h3 : mPls ms rs = is) (h : sd ds (ptk is Γ Q) (xtk is Γ Wd)) : clkX Wd ms sd Γ rs Q := ⟨_, h1, h2, by subst h3; exact h⟩
theorem e_xt {is : List Nat} (h1 : putsD is ds Γ = some Γ1) (h2 : Γ1 = Γ') (h : Wd n fds Γ') : xtk is Γ Wd n fds ds := ⟨_, h1, by rw [h2]; exact h⟩
theorem e_Snoc {Q : List Res → Env → Prop} (h : mr Γ fun rs Γ1 => Q (rs ++ ds.map Res.val) Γ1) : mSnoc mr ds Γ Q := h
def rsk (Wd : Dwx) (n : Str) (fs : List Str) (Γ : Env) (rs : List Res) : Prop := ∃ ds, dats rs = some ds ∧ ds.length = fs.length ∧ fs.length ≤ 100 ∧ ds.all scal = true ∧ Wd n (flds fs ds) Γ
theorem s_Raise (h : mr Γ fun rs Γ1 => rsk Wd n fs Γ1 rs) : mRaise Wd n fs mr (.mk nx rt bk ct) Γ := h
theorem s_raise (h1 : dats rs = some ds) (h2 : ds.length = fs.length) (h3 : fs.length ≤ 100) (h4 : ds.all scal = true) (h5 : flds fs ds = fds) (h : Wd n fds Γ) : rsk Wd n fs Γ rs := ⟨_, h1, h2, h3, h4, by rw [h5]; exact h⟩
theorem d_x {ms : List Md} {Ed : EdT} (h1 : iosD ms Γ = ds) (h : Ed n fds ds) : wEnd ms Ed n fds Γ := by subst h1; exact h
def unk (i : Nat) (nx : Env → Prop) : Env → Prop := fun Γ => freeB Γ i = true ∧ nx (Γ.set i .no)
theorem u_nk (h1 : freeB Γ i = true) (h2 : Γ.set i .no = Γ') (h : nx Γ') : unk i nx Γ := ⟨h1, by rw [h2]; exact h⟩
def xck (i : Nat) (tab : List (Str × Bool)) (mz : Str → List (Str × D) → Addr → DTS) (Wd : Dwx) (nx : Env → Prop) (rt : Res → Env → Prop) (bk ct : Env → Prop) : Dwx := fun n fds Γ1 => ∃ b, tab.lookup n = some b ∧
  (b = true → freeB Γ1 i = true ∧ ∀ a, mz n fds a (.mk (unk i nx) rt (unk i bk) (unk i ct)) (Γ1.set i (.sh (.cls a)))) ∧ (b = false → Wd n fds Γ1)
theorem s_TryAs (h : mb (xck i tab mz Wd nx rt bk ct) (.mk nx rt bk ct) Γ) : mTryAs i tab mb mz Wd (.mk nx rt bk ct) Γ := h
theorem x_T (h1 : tab.lookup n = some true) (h2 : freeB Γ i = true) (h : ∀ a, ∀ Γ', Γ.set i (.sh (.cls a)) = Γ' → mz n fds a (.mk (unk i nx) rt (unk i bk) (unk i ct)) Γ') : xck i tab mz Wd nx rt bk ct n fds Γ := ⟨true, h1, fun _ => ⟨h2, fun a => h a _ rfl⟩, fun z => by cases z⟩
theorem x_F (h1 : tab.lookup n = some false) (h : Wd n fds Γ) : xck i tab mz Wd nx rt bk ct n fds Γ := ⟨false, h1, (fun z => by cases z), fun _ => h⟩
def yck (tab : List (Str × Bool)) (mz : Str → List (Str × D) → Addr → DTS) (Wd : Dwx) (nx : Env → Prop) (rt : Res → Env → Prop) (bk ct : Env → Prop) : Dwx := fun n fds Γ1 => ∃ b, tab.lookup n = some b ∧ (b = true → ∀ a, mz n fds a (.mk nx rt bk ct) Γ1) ∧ (b = false → Wd n fds Γ1)
theorem s_Try (h : mb (yck tab mz Wd nx rt bk ct) (.mk nx rt bk ct) Γ) : mTry tab mb mz Wd (.mk nx rt bk ct) Γ := h
theorem y_T (h1 : tab.lookup n = some true) (h : ∀ a, mz n fds a (.mk nx rt bk ct) Γ) : yck tab mz Wd nx rt bk ct n fds Γ := ⟨true, h1, fun _ => h, fun z => by cases z⟩
theorem y_F (h1 : tab.lookup n = some false) (h : Wd n fds Γ) : yck tab mz Wd nx rt bk ct n fds Γ := ⟨false, h1, (fun z => by cases z), fun _ => h⟩
def xik (n : Str) (a : Addr) (tab : List (Str × Bool)) (r : Res) (Γ1 : Env) (Q : QE) : Prop := r = .val (.cls a) ∧ ∃ b, tab.lookup n = some b ∧ Q (.val (.bl b)) Γ1
theorem e_Xis (h : mo Γ fun r Γ1 => xik n a tab r Γ1 Q) : mXis n a tab mo Γ Q := h
theorem e_xis (h1 : tab.lookup n = some b) (h : Q (.val (.bl b)) Γ) : xik n a tab (.val (.cls a)) Γ Q := ⟨rfl, _, h1, h⟩
def xfk (n : Str) (fds : List (Str × D)) (a : Addr) (f : Str) (ns : List Str) (r : Res) (Γ1 : Env) (Q : QE) : Prop := r = .val (.cls a) ∧ n ∈ ns ∧ ∃ d, fds.lookup f = some d ∧ Q (.val d) Γ1
theorem e_Xf (h : mo Γ fun r Γ1 => xfk n fds a f ns r Γ1 Q) : mXf n fds a f ns mo Γ Q := h
theorem e_xf (h1 : n ∈ ns) (h2 : fds.lookup f = some d) (h : Q (.val d) Γ) : xfk n fds a f ns (.val (.cls a)) Γ Q := ⟨rfl, h1, _, h2, h⟩
end
end DL
/-! the data layer, part 42: a for over a generator: the generator's frame, woken -/
namespace DL
open PySem PySem.Spec PyProof.Rows L2
/-! ### a heap cut short -/
def low (H : Hp) (L : Nat) : Hp := fun b => if b < L then H b else none
/-! ### the generator's frame -/
/-! ### a name is stored, the generators stay -/
end DL
/-! the data layer, part 43: a for in a generator's body -/
namespace DL
open PySem PySem.Spec PyProof.Rows L2
end DL
/-! the data layer, part 44: a generator's for, yielding a name at each turn, woken by a for -/
namespace DL
open PySem PySem.Spec PyProof.Rows L2 GenW
/-- a generator over a list and who drives it (X: the driver; pc: its pins; L: the generator's frame; a: its object; jn: the driver's name for what was yielded, jl: its loop's name) -/
structure GD where
  X : Cx
  pc : List (Addr × Obj)
  N : List Str
  qual : Str
  scope : Scope
  f : Addr
  cd : Value
  L : Nat
  a : Addr
  go : Obj
  g : Nat
  tg : Expr
  S1 : Stmt
  nm : Str
  np : Pos
  yp : Pos
  yq : Pos
  al : Addr
  xs : List V
  H1 : Hp
  σ1 : L2.St
  jn : Nat
  jl : Nat
  dat : Nat → D
  ig : Nat
  inw : Nat
  O : List Addr
def GD.env (G : GD) : PySem.Env := envOfC G.qual G.scope G.L G.f G.cd
def GD.body (G : GD) : List Stmt := [G.S1, .Expr (.Yield (some (.Name G.nm G.np)) G.yp) G.yq]
def GD.agree (G : GD) (σ : L2.St) : Prop := ∀ i, i ≠ G.jn → i ≠ G.jl → σ[i]? = G.σ1[i]?
/-- the end -/
def GD.F (G : GD) : Nat → Shared → Shared → Prop := fun _ _ s => ∃ (σ : L2.St) (H : Hp) (x : V), Inv G.X G.pc σ H s ∧ G.agree σ ∧ (∀ b o, G.H1 b = some o → H b = some o) ∧ σ[G.jn]? = some (some x) ∧ Rep G.X.K (hide G.O H) x (G.dat G.xs.length)
end DL
/-! the data layer, part 45: the generator's loop -/
namespace DL
open PySem PySem.Spec PyProof.Rows L2 GenW
end DL
/-! the data layer, part 46: a generator is made and first woken -/
namespace DL
open PySem PySem.Spec PyProof.Rows L2 GenW
end DL
/-! the data layer, part 47: for name in generator(a, b): other = name -/
namespace DL
open PySem PySem.Spec PyProof.Rows L2 GenW
theorem Inv.gens {X : Cx} {pins : List (Addr × Obj)} {σ : L2.St} {H : Hp} {s : Shared} {g : Nat} {gs : GenState} (I : Inv X pins σ H s) (hb : gs.bare = true) : Inv X pins σ H (s.setGen g gs) :=
  ⟨I.ok, I.os, allBare_setGen I.bare hb, I.base, I.loc, I.cell, I.free, I.freeC, I.pin, I.hok, I.len⟩
end DL
/-! the data layer, part 48: a for over a generator, over data -/
namespace DL
open PySem PySem.Spec PyProof.Rows L2 GenW
end DL
/-! the data layer, part 49: sum(range(..)) -/
namespace DL
open PySem PySem.Spec PyProof.Rows L2
section
variable {X : Cx} {C : Ctx} {e : Expr} {te : L2.St → Hp → (Int → Int → Hp → Prop) → Prop} {mg : Env → (Int → Int → Env → Prop) → Prop}
def rgSum (a b : Int) : Int := ((List.range (b - a).toNat).map fun i => a + ((i : Nat) : Int)).sum
def mSumRg (mg : Env → (Int → Int → Env → Prop) → Prop) : DTE := fun Γ Q => mg Γ fun a b Γ1 => RgOk a b ∧ Q (.val (.int (rgSum a b))) Γ1
def srgk (a b : Int) (Γ1 : Env) (Q : QE) : Prop := RgOk a b ∧ Q (.val (.int (rgSum a b))) Γ1
theorem e_SRg {Γ : Env} {Q : QE} (h : mg Γ fun a b Γ1 => srgk a b Γ1 Q) : mSumRg mg Γ Q := h
theorem e_srg {Γ : Env} {Q : QE} {a b : Int} (h1 : RgOk a b) (h : Q (.val (.int (rgSum a b))) Γ) : srgk a b Γ Q := ⟨h1, h⟩
end
end DL
/-! the data layer, part 50: the empty dict -/
namespace DL
open PySem PySem.Spec PyProof.Rows L2
def mDict0 : DTE := fun Γ Q => Q (.fr (.dic [])) Γ
theorem de_dict0 {X : Cx} {C : Ctx} {pos : Pos} : DE X C (.Dict [] [] pos) tDNewK mDict0 := ⟨pe_dnewK, fun Γ O σ H Qd Q R h k => fun p hp => (outs_of R (L2.Same.refl _) k).new p _ _ hp (.dic .nil) h⟩
theorem e_Dict0 {Γ : Env} {Q : QE} (h : Q (.fr (.dic [])) Γ) : mDict0 Γ Q := h
theorem i_repr0 {Q : Res → Prop} (h : Q (.val (.str (toPy (.dic [])).shown))) : reprD [.dic []] Q := ⟨.inl rfl, h⟩
end DL
/-! the data layer, part 51: loops and comprehensions over a written list, one turn at a time -/
namespace DL
open PySem L2
/-! a, b, .. = a list -/
def mgUnl (n : Nat) (ms : DTGs) : DTG := fun d Γ Q => ∃ ds, d = .lst ds ∧ ds.length = n ∧ ms ds Γ Q
theorem g_unl {n : Nat} {ms : DTGs} {ds : List D} {Γ : Env} {nx : Env → Prop} (h1 : ds.length = n) (h : ms ds Γ nx) : mgUnl n ms (.lst ds) Γ nx := ⟨_, rfl, h1, h⟩
end DL
/-! the data layer, part 52: + by the class's own __add__ -/
namespace DL
open PySem PySem.Spec PyProof.Rows L2
/-- the two sides -/
def mPairO (C : Addr) (ma mb : DTE) : DTA := fun Γ Q => ma Γ fun r Γ1 => mb Γ1 fun r2 Γ2 => (∃ ns ds ns' ds', dat r = some (.obj C ns ds) ∧ dat r2 = some (.obj C ns' ds')) ∧ Q [r, r2] Γ2
def pok (C : Addr) (r r2 : Res) (Γ : Env) (Q : List Res → Env → Prop) : Prop := (∃ ns ds ns' ds', dat r = some (.obj C ns ds) ∧ dat r2 = some (.obj C ns' ds')) ∧ Q [r, r2] Γ
theorem e_PairO {C : Addr} {ma mb : DTE} {Γ : Env} {Q : List Res → Env → Prop} (h : ma Γ fun r Γ1 => mb Γ1 fun r2 Γ2 => pok C r r2 Γ2 Q) : mPairO C ma mb Γ Q := h
theorem e_pairO {C : Addr} {r r2 : Res} {Γ : Env} {Q : List Res → Env → Prop} {ns ns' : List Str} {ds ds' : List D} (h1 : dat r = some (.obj C ns ds)) (h2 : dat r2 = some (.obj C ns' ds')) (h : Q [r, r2] Γ) : pok C r r2 Γ Q := ⟨⟨_, _, _, _, h1, h2⟩, h⟩
end DL
/-! the data layer, part 53: joins after a branch; small tools -/
namespace DL
open PySem PySem.Spec PyProof.Rows L2
theorem at_map {α : Type} (f : α → D) (l : List α) {k : Nat} (h : k < l.length) : atI (l.map f) (k : Int) = some (f l[k]) := by
  unfold atI
  rw [ixN_nat (by rw [List.length_map]; exact h), Option.bind_some, List.getElem?_map, List.getElem?_eq_getElem h]; rfl
end DL
namespace DL
end DL
/-! the data layer, part 54: equality of trees of numbers -/
namespace DL
open PySem PySem.Spec PyProof.Rows L2
end DL
/-! the data layer, part 55: x[a:c] = a list, x a place -/
namespace DL
open PySem PySem.Spec PyProof.Rows L2
section
variable {X : Cx} {C : Ctx} {pos p2 : Pos} {o lo hi : Expr} {to tl th : TE} {mo ml mh : DTE}
def mgSlc (mo ml mh : DTE) : DTG := fun d Γ Q => mo Γ fun ro Γ1 => ml Γ1 fun rl Γ2 => mh Γ2 fun rh Γ3 => ∃ i xs ys a c, ro = .pl i ∧ cont Γ3[i]? = some (.lst xs) ∧ d = .lst ys ∧ rl = .val (.int a) ∧ rh = .val (.int c) ∧ 0 ≤ a ∧ a ≤ c ∧ c ≤ xs.length ∧ xs.length + ys.length ≤ 100000 ∧ ∃ Γ4, setC Γ3 i (.lst (xs.take a.toNat ++ ys ++ xs.drop c.toNat)) = some Γ4 ∧ Q Γ4
end
def slck (d : D) (ro rl rh : Res) (Γ : Env) (Q : Env → Prop) : Prop := ∃ i xs ys a c, ro = .pl i ∧ cont Γ[i]? = some (.lst xs) ∧ d = .lst ys ∧ rl = .val (.int a) ∧ rh = .val (.int c) ∧ 0 ≤ a ∧ a ≤ c ∧ c ≤ xs.length ∧ xs.length + ys.length ≤ 100000 ∧ ∃ Γ4, setC Γ i (.lst (xs.take a.toNat ++ ys ++ xs.drop c.toNat)) = some Γ4 ∧ Q Γ4
theorem g_Slc {mo ml mh : DTE} {d : D} {Γ : Env} {Q : Env → Prop} (h : mo Γ fun ro Γ1 => ml Γ1 fun rl Γ2 => mh Γ2 fun rh Γ3 => slck d ro rl rh Γ3 Q) : mgSlc mo ml mh d Γ Q := h
end DL
/-! the data layer, part 56: small tools -/
namespace DL
open PySem PySem.Spec PyProof.Rows L2
theorem i_ninP {i : Int} {l : List Int} {Q : Res → Prop} (h : Q (.val (.bl (!decide (i ∈ l))))) : ninD (.int i) (.tup (l.map D.int)) Q := ⟨i, l, rfl, ints?_map l, _, rfl, h⟩
end DL
/-! the data layer, part 57: dicts -/
namespace DL
open PySem PySem.Spec PyProof.Rows L2
def keyO : D → Option L2.Key
  | .int i => some (.inl i)
  | .str s => some (.inr s)
  | _ => none
def keyD : L2.Key → D
  | .inl i => .int i
  | .inr s => .str s
def keysO : List D → Option (List L2.Key)
  | [] => some []
  | d :: ds => match keyO d, keysO ds with
    | some k, some ks => some (k :: ks)
    | _, _ => none
section
variable {κ : Type} [DecidableEq κ]
def lookE (kvs : List (κ × D)) (k : κ) : Option D := (kvs.find? fun kv => decide (kv.1 = k)).map (·.2)
def putE (kvs : List (κ × D)) (k : κ) (v : D) : List (κ × D) := if (kvs.any fun kv => decide (kv.1 = k)) = true then kvs.map (fun kv => if kv.1 = k then (kv.1, v) else kv) else kvs ++ [(k, v)]
end
/-- what stands at a key: none: no such key; outer none: not a dict, not a key -/
def lookD : D → D → Option (Option D)
  | .dic kvs, k => (keyO k).map (lookE kvs)
  | .dkl kvs, k => (keyO k).map (lookE kvs)
  | .dit kvs, .tup ds => (keysO ds).map (lookE kvs)
  | .dtl kvs, .tup ds => (keysO ds).map (lookE kvs)
  | _, _ => none
def isDic : D → Bool
  | .dic _ => true
  | .dkl _ => true
  | .dit _ => true
  | .dtl _ => true
  | _ => false
/-- d[k] = v -/
def putD : D → D → D → Option D
  | .dic kvs, k, v => (keyO k).bind fun k => if kvs.length < 100000 then some (.dic (putE kvs k v)) else none
  | .dit kvs, .tup ds, v => (keysO ds).bind fun k => if kvs.length < 100000 then some (.dit (putE kvs k v)) else none
  | _, _, _ => none
section
variable {K : Fg} {H : Hp} {O : List Addr}
theorem keyO_ok {x : V} {d : D} {k : L2.Key} (h : B2 K O H x d) (e : keyO d = some k) : x = kV k := by
  cases d with
  | int i => cases e; exact h.int
  | str s => cases e; exact h.str
  | _ => cases e
theorem keyO_okR {x : V} {d : D} {k : L2.Key} (h : Rep K H x d) (e : keyO d = some k) : x = kV k := by
  cases d with
  | int i => cases e; cases h; rfl
  | str s => cases e; cases h; rfl
  | _ => cases e
theorem keysO_ok : ∀ {xs : List V} {ds : List D} {ks : List L2.Key}, Reps K H xs ds → keysO ds = some ks → xs = ks.map kV
  | _, _, _, .nil, e => by cases e; rfl
  | _, _, ks, .cons (d := d) (ds := ds) h t, e => by
    unfold keysO at e
    split at e
    · rename_i k ks' e1 e2
      cases e
      rw [keyO_okR h e1, keysO_ok t e2]; rfl
    · cases e
theorem keyD_rep (k : L2.Key) : Rep K H (kV k) (keyD k) := by
  cases k with
  | inl i => exact .int i
  | inr s => exact .str s
theorem repK_look {kvs : List (L2.Key × V)} {dks : List (L2.Key × D)} (r : RepK K H kvs dks) (k : L2.Key) : (∀ d, lookE dks k = some d → ∃ v, valV kvs k = some v ∧ Rep K H v d) ∧ (lookE dks k = none → valV kvs k = none) := by
  induction dks generalizing kvs with
  | nil => cases r; exact ⟨fun d h => (nomatch h), fun _ => rfl⟩
  | cons p ps ih =>
    cases r with
    | cons hv t =>
      rename_i j v d vs
      obtain ⟨i1, i2⟩ := ih t
      by_cases e : j = k
      · subst e
        refine ⟨fun d' h => ?_, fun h => ?_⟩
        · have h' : some d = some d' := by simpa [lookE, List.find?_cons] using h
          cases h'
          exact ⟨v, valV_pos rfl, hv⟩
        · simp [lookE, List.find?_cons] at h
      · have e1 : lookE ((j, d) :: ps) k = lookE ps k := by simp [lookE, List.find?_cons, e]
        rw [e1, valV_neg (p := (j, v)) e]
        exact ⟨i1, i2⟩
theorem repT_look {kvs : List (List L2.Key × V)} {dks : List (List L2.Key × D)} (r : RepT K H kvs dks) (k : List L2.Key) : (∀ d, lookE dks k = some d → ∃ v, valV kvs k = some v ∧ Rep K H v d) ∧ (lookE dks k = none → valV kvs k = none) := by
  induction dks generalizing kvs with
  | nil => cases r; exact ⟨fun d h => (nomatch h), fun _ => rfl⟩
  | cons p ps ih =>
    cases r with
    | cons hv t =>
      rename_i j v d vs
      obtain ⟨i1, i2⟩ := ih t
      by_cases e : j = k
      · subst e
        refine ⟨fun d' h => ?_, fun h => ?_⟩
        · have h' : some d = some d' := by simpa [lookE, List.find?_cons] using h
          cases h'
          exact ⟨v, valV_pos rfl, hv⟩
        · simp [lookE, List.find?_cons] at h
      · have e1 : lookE ((j, d) :: ps) k = lookE ps k := by simp [lookE, List.find?_cons, e]
        rw [e1, valV_neg (p := (j, v)) e]
        exact ⟨i1, i2⟩
theorem RepK.len : ∀ {kvs : List (L2.Key × V)} {dks : List (L2.Key × D)}, RepK K H kvs dks → kvs.length = dks.length
  | _, _, .nil => rfl
  | _, _, .cons _ t => by rw [List.length_cons, List.length_cons, RepK.len t]
theorem RepT.len : ∀ {kvs : List (List L2.Key × V)} {dks : List (List L2.Key × D)}, RepT K H kvs dks → kvs.length = dks.length
  | _, _, .nil => rfl
  | _, _, .cons _ t => by rw [List.length_cons, List.length_cons, RepT.len t]
theorem RepK.app : ∀ {kvs ls : List (L2.Key × V)} {dks es : List (L2.Key × D)}, RepK K H kvs dks → RepK K H ls es → RepK K H (kvs ++ ls) (dks ++ es)
  | _, _, _, _, .nil, s => s
  | _, _, _, _, .cons h t, s => .cons h (RepK.app t s)
theorem RepT.app : ∀ {kvs ls : List (List L2.Key × V)} {dks es : List (List L2.Key × D)}, RepT K H kvs dks → RepT K H ls es → RepT K H (kvs ++ ls) (dks ++ es)
  | _, _, _, _, .nil, s => s
  | _, _, _, _, .cons h t, s => .cons h (RepT.app t s)
theorem RepK.any {k : L2.Key} : ∀ {kvs : List (L2.Key × V)} {dks : List (L2.Key × D)}, RepK K H kvs dks → (kvs.any fun kv => decide (kv.1 = k)) = dks.any fun kv => decide (kv.1 = k)
  | _, _, .nil => rfl
  | _, _, .cons h t => by rw [List.any_cons, List.any_cons, RepK.any t]
theorem RepT.any {k : List L2.Key} : ∀ {kvs : List (List L2.Key × V)} {dks : List (List L2.Key × D)}, RepT K H kvs dks → (kvs.any fun kv => decide (kv.1 = k)) = dks.any fun kv => decide (kv.1 = k)
  | _, _, .nil => rfl
  | _, _, .cons h t => by rw [List.any_cons, List.any_cons, RepT.any t]
theorem RepK.repl {k : L2.Key} {v : V} {d : D} (hv : Rep K H v d) : ∀ {kvs : List (L2.Key × V)} {dks : List (L2.Key × D)}, RepK K H kvs dks → RepK K H (kvs.map fun kv => if kv.1 = k then (kv.1, v) else kv) (dks.map fun kv => if kv.1 = k then (kv.1, d) else kv)
  | _, _, .nil => .nil
  | _, _, .cons (k := j) h t => by
    rw [List.map_cons, List.map_cons]
    by_cases e : j = k
    · rw [if_pos e, if_pos e]; exact .cons hv (RepK.repl hv t)
    · rw [if_neg e, if_neg e]; exact .cons h (RepK.repl hv t)
theorem RepT.repl {k : List L2.Key} {v : V} {d : D} (hv : Rep K H v d) : ∀ {kvs : List (List L2.Key × V)} {dks : List (List L2.Key × D)}, RepT K H kvs dks → RepT K H (kvs.map fun kv => if kv.1 = k then (kv.1, v) else kv) (dks.map fun kv => if kv.1 = k then (kv.1, d) else kv)
  | _, _, .nil => .nil
  | _, _, .cons (k := j) h t => by
    rw [List.map_cons, List.map_cons]
    by_cases e : j = k
    · rw [if_pos e, if_pos e]; exact .cons hv (RepT.repl hv t)
    · rw [if_neg e, if_neg e]; exact .cons h (RepT.repl hv t)
theorem RepK.put {kvs : List (L2.Key × V)} {dks : List (L2.Key × D)} (r : RepK K H kvs dks) (k : L2.Key) {v : V} {d : D} (hv : Rep K H v d) : RepK K H (L2.putK kvs k v) (putE dks k d) := by
  unfold L2.putK putE
  rw [r.any (k := k)]
  split
  · exact r.repl hv
  · exact r.app (.cons hv .nil)
theorem RepT.put {kvs : List (List L2.Key × V)} {dks : List (List L2.Key × D)} (r : RepT K H kvs dks) (k : List L2.Key) {v : V} {d : D} (hv : Rep K H v d) : RepT K H (L2.putK kvs k v) (putE dks k d) := by
  unfold L2.putK putE
  rw [r.any (k := k)]
  split
  · exact r.repl hv
  · exact r.app (.cons hv .nil)
/-- what a dict answers -/
theorem dget_of {x y : V} {c kd : D} {o : Option D} (hx : B2 K O H x c) (hy : B2 K O H y kd) (e : lookD c kd = some o) : ∃ a ov, x = .ref a ∧ DGet H a y ov ∧ (∀ d, o = some d → ∃ v, ov = some v ∧ Rep K (hide O H) v d) ∧ (o = none → ov = none) := by
  cases c with
  | dic kvs =>
    obtain ⟨a, vs, rfl, hH, r⟩ := hx.dic
    have e : (keyO kd).map (lookE kvs) = some o := e
    cases hk : keyO kd with
    | none => rw [hk] at e; cases e
    | some k =>
      rw [hk] at e
      cases e
      rw [keyO_ok hy hk]
      exact ⟨a, _, rfl, .inl ⟨vs, k, .inl hH, rfl, rfl⟩, (repK_look r k).1, (repK_look r k).2⟩
  | dkl kvs =>
    have e : (keyO kd).map (lookE kvs) = some o := e
    cases hk : keyO kd with
    | none => rw [hk] at e; cases e
    | some k =>
      rw [hk] at e
      cases e
      rw [keyO_ok hy hk]
      rcases hx with hx | ⟨l, ob, _, _, hx⟩
      · cases hx with | dkl hH r => exact ⟨_, _, rfl, .inl ⟨_, k, .inr ⟨_, hide_same _ _ hH⟩, rfl, rfl⟩, (repK_look r k).1, (repK_look r k).2⟩
      · cases hx
  | dit kvs =>
    cases kd with
    | tup ds =>
      have e : (keysO ds).map (lookE kvs) = some o := e
      cases hk : keysO ds with
      | none => rw [hk] at e; cases e
      | some ks =>
        rw [hk] at e
        cases e
        obtain ⟨a, vs, rfl, hH, r⟩ := hx.dit
        obtain ⟨b, us, rfl, hb, ru⟩ := hy.tup
        rw [keysO_ok ru hk] at hb
        exact ⟨a, _, rfl, .inr ⟨vs, ks, b, .inl hH, rfl, hb, rfl⟩, (repT_look r ks).1, (repT_look r ks).2⟩
    | _ => cases e
  | dtl kvs =>
    cases kd with
    | tup ds =>
      have e : (keysO ds).map (lookE kvs) = some o := e
      cases hk : keysO ds with
      | none => rw [hk] at e; cases e
      | some ks =>
        rw [hk] at e
        cases e
        obtain ⟨b, us, rfl, hb, ru⟩ := hy.tup
        rw [keysO_ok ru hk] at hb
        rcases hx with hx | ⟨l, ob, _, _, hx⟩
        · cases hx with | dtl hH r => exact ⟨_, _, rfl, .inr ⟨_, ks, b, .inr ⟨_, hide_same _ _ hH⟩, rfl, hb, rfl⟩, (repT_look r ks).1, (repT_look r ks).2⟩
        · cases hx
    | _ => cases e
  | _ => cases e
theorem isD_of {x : V} {c : D} (hx : B2 K O H x c) (e : isDic c = true) : ∃ a, x = .ref a ∧ IsD H a := by
  cases c with
  | dic kvs => obtain ⟨a, vs, rfl, hH, r⟩ := hx.dic; exact ⟨a, rfl, .inl ⟨_, .inl hH⟩⟩
  | dit kvs => obtain ⟨a, vs, rfl, hH, r⟩ := hx.dit; exact ⟨a, rfl, .inr ⟨_, .inl hH⟩⟩
  | dkl kvs =>
    rcases hx with hx | ⟨l, ob, _, _, hx⟩
    · cases hx with | dkl hH r => exact ⟨_, rfl, .inl ⟨_, .inr ⟨_, hide_same _ _ hH⟩⟩⟩
    · cases hx
  | dtl kvs =>
    rcases hx with hx | ⟨l, ob, _, _, hx⟩
    · cases hx with | dtl hH r => exact ⟨_, rfl, .inr ⟨_, .inr ⟨_, hide_same _ _ hH⟩⟩⟩
    · cases hx
  | _ => cases e
end
/-! ### d[k], k in d, d.get(k, x) -/
def dgetD : D → D → (Res → Prop) → Prop := fun c k Q => ∃ d, lookD c k = some (some d) ∧ Q (.val d)
def dinD : D → D → (Res → Prop) → Prop := fun k c Q => ∃ o, lookD c k = some o ∧ Q (.val (.bl o.isSome))
def dninD : D → D → (Res → Prop) → Prop := fun k c Q => ∃ o, lookD c k = some o ∧ Q (.val (.bl (!o.isSome)))
def uDGet : R2 := fun x y H Q => ∃ a v, x = .ref a ∧ DGet H a y (some v) ∧ Q v H
def uDIn : R2 := fun y x H Q => ∃ a o, x = .ref a ∧ DGet H a y o ∧ Q (.bl o.isSome) H
def uDNotIn : R2 := fun y x H Q => ∃ a o, x = .ref a ∧ DGet H a y o ∧ Q (.bl (!o.isSome)) H
theorem some_same {o : Option D} {ov : Option V} {P : V → D → Prop} (h1 : ∀ d, o = some d → ∃ v, ov = some v ∧ P v d) (h2 : o = none → ov = none) : ov.isSome = o.isSome := by
  cases o with
  | none => rw [h2 rfl]; rfl
  | some d => obtain ⟨v, e, _⟩ := h1 d rfl; rw [e]; rfl
theorem sim_dget {K : Fg} : SimR2 K uDGet dgetD := fun O H x y a b Qd Q h1 h2 q k => by
  obtain ⟨d, e, q⟩ := q
  obtain ⟨p, ov, rfl, g, g1, _⟩ := dget_of h1 h2 e
  obtain ⟨v, rfl, r⟩ := g1 d rfl
  exact ⟨p, v, rfl, g, k.val v d r q⟩
theorem sim_din {K : Fg} : SimR2 K uDIn dinD := fun O H x y a b Qd Q h1 h2 q k => by
  obtain ⟨o, e, q⟩ := q
  obtain ⟨p, ov, rfl, g, g1, g2⟩ := dget_of h2 h1 e
  exact ⟨p, ov, rfl, g, by rw [some_same g1 g2]; exact k.val _ _ (.bl _) q⟩
theorem sim_dnin {K : Fg} : SimR2 K uDNotIn dninD := fun O H x y a b Qd Q h1 h2 q k => by
  obtain ⟨o, e, q⟩ := q
  obtain ⟨p, ov, rfl, g, g1, g2⟩ := dget_of h2 h1 e
  exact ⟨p, ov, rfl, g, by rw [some_same g1 g2]; exact k.val _ _ (.bl _) q⟩
/-- d.get(k, x) -/
def mDGet2 (mo mk mx : DTE) : DTE := fun Γ Q => mo Γ fun ro Γ1 => (∃ c, rd Γ1 ro = some c ∧ isDic c = true) ∧ mk Γ1 fun rk Γ2 => mx Γ2 fun rx Γ3 => ∃ c k o dx, rd Γ3 ro = some c ∧ rd Γ3 rk = some k ∧ lookD c k = some o ∧ dat rx = some dx ∧ Q (.val (o.getD dx)) Γ3
section
variable {X : Cx} {C : Ctx} {to ti tx : TE} {mo mi mx : DTE} {o i x : Expr} {pos apos cpos : Pos}
theorem sim_dget2 (ho : SimE C to mo) (hi : SimE C ti mi) (hx : SimE C tx mx) : SimE C (tDGet2 to ti tx) (mDGet2 mo mi mx) := fun Γ O σ H Qd Q R h k => by
  refine ho Γ O σ H _ _ R h fun ro Γ1 vo H1 R1 e1 q1 => ?_
  obtain ⟨⟨c0, hc0, hd0⟩, q1⟩ := q1
  obtain ⟨a, rfl, hD⟩ := isD_of (R1.pend.b2 R1.rel hc0) hd0
  refine ⟨a, rfl, hD, ?_⟩
  refine hi Γ1 O σ H1 _ _ R1.rel q1 fun rk Γ2 vk H2 R2 e2 q2 => ?_
  refine hx Γ2 O σ H2 _ _ R2.rel q2 fun rx Γ3 vx H3 R3 e3 q3 => ?_
  obtain ⟨c, kd, o, dx, hc, hk, hl, hx, q⟩ := q3
  have bo := (R1.pend.mono (L2.Same.trans e2.1 e3.1)).b2 R3.rel hc
  have bk := (R2.pend.mono e3.1).b2 R3.rel hk
  obtain ⟨p, ov, ep, g, g1, g2⟩ := dget_of bo bk hl
  cases ep
  refine ⟨ov, g, ?_⟩
  have rx := R3.pend.dat hx
  have es : Same (hide O H) (hide O H3) := L2.Same.trans e1.1 (L2.Same.trans e2.1 e3.1)
  cases o with
  | none => rw [g2 rfl]; exact k (.val dx) Γ3 vx H3 ⟨R3.rel, rx⟩ (.val es) q
  | some d =>
    obtain ⟨v, rfl, r⟩ := g1 d rfl
    exact k (.val d) Γ3 v H3 ⟨R3.rel, r⟩ (.val es) q
theorem de_dget (hu : X.A.units + 1 < cLine) (ho : DE X C o to mo) (hi : DE X C i ti mi) (hs : NoSl i := by intro _ _; rfl) : DE X C (.Subscript o i pos) (tOp uDGet to ti) (mOp dgetD mo mi) := ⟨pe_dget hu ho.pe hi.pe hs, sim_op ho.sim hi.sim sim_dget⟩
theorem dt_din (hu : X.A.units + 1 < cLine) (hi : DE X C i ti mi) (ho : DE X C o to mo) (hm : behindInMarks .In o = false := by rfl) : DT X C (.Compare i [.In] [o] pos) (tB (tOp uDIn ti to)) (mTest (mOp dinD mi mo)) := ⟨pt_cmp (pc_din hu hi.pe ho.pe) (h1 := hm), sim_testB (sim_op hi.sim ho.sim sim_din)⟩
theorem dt_dnin (hu : X.A.units + 1 < cLine) (hi : DE X C i ti mi) (ho : DE X C o to mo) (hm : behindInMarks .NotIn o = false := by rfl) : DT X C (.Compare i [.NotIn] [o] pos) (tB (tOp uDNotIn ti to)) (mTest (mOp dninD mi mo)) := ⟨pt_cmp (pc_dnotin hu hi.pe ho.pe) (h1 := hm), sim_testB (sim_op hi.sim ho.sim sim_dnin)⟩
theorem de_dget2 (hu : X.A.units + 1 < cLine) (ho : DE X C o to mo) (hi : DE X C i ti mi) (hx : DE X C x tx mx) (m : M2 X o "get" apos i x cpos) : DE X C (.Call (.Attribute o "get" apos) [i, x] [] cpos) (tDGet2 to ti tx) (mDGet2 mo mi mx) := ⟨pe_dget2 hu ho.pe hi.pe hx.pe m, sim_dget2 ho.sim hi.sim hx.sim⟩
end
/-! ### d[k] = v -/
def mDPut (mo mi mv : DTE) : DTS := fun De Γ => mv Γ fun rv Γ1 => mo Γ1 fun ro Γ2 => mi Γ2 fun ri Γ3 => ∃ i c k dv c', ro = .pl i ∧ mcont Γ3[i]? = some c ∧ rd Γ3 ri = some k ∧ dat rv = some dv ∧ putD c k dv = some c' ∧ ∃ Γ4, setC Γ3 i c' = some Γ4 ∧ De.nx Γ4
theorem dput_of {K : Fg} {O : List Addr} {H : Hp} {l : Addr} {o : HO} {c kd dv c' : D} {y v : V} (hl : H l = some o) (ho : OwnOk K (hide O H) o c) (hy : B2 K O H y kd) (hv : Rep K (hide O H) v dv) (e : putD c kd dv = some c') : ∃ o', DPut H l y v (upd H l o') ∧ OwnOk K (hide O H) o' c' := by
  cases ho with
  | dic r =>
    rename_i kvs dks
    have e : ((keyO kd).bind fun k => if dks.length < 100000 then some (D.dic (putE dks k dv)) else none) = some c' := e
    cases hk : keyO kd with
    | none => rw [hk] at e; cases e
    | some k =>
      rw [hk, Option.bind_some] at e
      split at e
      · rename_i hlen
        cases e
        rw [keyO_ok hy hk]
        exact ⟨_, .inl ⟨kvs, k, hl, rfl, by rw [r.len]; exact Nat.lt_of_lt_of_le hlen (by decide), rfl⟩, .dic (r.put k hv)⟩
      · cases e
  | dit r =>
    rename_i kvs dks
    cases kd with
    | tup ds =>
      have e : ((keysO ds).bind fun k => if dks.length < 100000 then some (D.dit (putE dks k dv)) else none) = some c' := e
      cases hk : keysO ds with
      | none => rw [hk] at e; cases e
      | some ks =>
        rw [hk, Option.bind_some] at e
        split at e
        · rename_i hlen
          cases e
          obtain ⟨b, us, rfl, hb, ru⟩ := hy.tup
          rw [keysO_ok ru hk] at hb
          exact ⟨_, .inr ⟨kvs, ks, b, hl, rfl, hb, by rw [r.len]; exact Nat.lt_of_lt_of_le hlen (by decide), rfl⟩, .dit (r.put ks hv)⟩
        · cases e
    | _ => cases e
  | lst r => cases e
  | obj _ r => cases e
section
variable {X : Cx} {C : Ctx} {to ti tv : TE} {mo mi mv : DTE} {o i value : Expr} {pos pos' : Pos}
theorem sim_dput (ho : SimE C to mo) (hi : SimE C ti mi) (hv : SimE C tv mv) : SimS C (sDPut to ti tv) (mDPut mo mi mv) := fun Γ O σ H Dv Dd R h L => by
  refine hv Γ O σ H _ _ R h fun rv Γ1 v H1 R1 e1 q1 => ?_
  refine ho Γ1 O σ H1 _ _ R1.rel q1 fun ro Γ2 x H2 R2 e2 q2 => ?_
  refine hi Γ2 O σ H2 _ _ R2.rel q2 fun ri Γ3 y H3 R3 e3 q3 => ?_
  obtain ⟨j, c, kd, dv, c', rfl, hc, hk, hd, hp, Γ4, hs, q⟩ := q3
  have hσ : σ[j]? = some (some x) := R2.2
  have pl : ∃ l o, x = .ref l ∧ H3 l = some o ∧ OwnOk C.K (hide O H3) o c := by
    rcases mcont_of hc with g | g
    · obtain ⟨l, o, h1, _, _, h4, h5⟩ := R3.rel.sl j _ g
      rw [hσ] at h1; cases h1; exact ⟨l, o, rfl, h4, h5⟩
    · obtain ⟨l, o, h1, _, _, h4, h5⟩ := R3.rel.sl j _ g
      rw [hσ] at h1; cases h1; exact ⟨l, o, rfl, h4, h5⟩
  obtain ⟨l, ob, rfl, hl, hb⟩ := pl
  have rvv := (R1.pend.mono (L2.Same.trans e2.1 e3.1)).dat hd
  obtain ⟨o', g, ho'⟩ := dput_of hl hb (R3.pend.b2 R3.rel hk) rvv hp
  obtain ⟨R4, e4⟩ := set_relO R3.rel hs hσ ho'
  exact ⟨l, _, rfl, g, L.nx Γ4 O σ _ R4 q⟩
theorem ds_dput (hu : X.A.units + 1 < cLine) (ho : DE X C o to mo) (hi : DE X C i ti mi) (hv : DE X C value tv mv) (hs : swapsWith value (some (.Subscript o i pos')) pos.line X.env = pure false := by rfl) : DS X C (.Assign [.Subscript o i pos'] value pos) (sDPut to ti tv) (mDPut mo mi mv) := ⟨ps_dput hu ho.pe hi.pe hv.pe hs, sim_dput ho.sim hi.sim hv.sim⟩
end
/-! ### displays -/
def mDict0T : DTE := fun Γ Q => Q (.fr (.dit [])) Γ
/-- {k: v} -/
def mDict1 (mk mv : DTE) : DTE := fun Γ Q => mk Γ fun rk Γ1 => mv Γ1 fun rv Γ2 => ∃ kd k dv, rd Γ2 rk = some kd ∧ keyO kd = some k ∧ dat rv = some dv ∧ Q (.fr (.dic [(k, dv)])) Γ2
section
variable {X : Cx} {C : Ctx} {tk tv : TE} {mk mv : DTE} {k v : Expr} {pos : Pos}
theorem sim_dict1 (hk : ∀ U, SimE { C with U := U } tk mk) (hv : ∀ U, SimE { C with U := U } tv mv) : SimE C (tDisp [(tk, tv)]) (mDict1 mk mv) := fun Γ O σ H Qd Q R h kk => by
  intro p hp
  have hnp := R.notin hp
  have h0 := R.fresh0 hp
  have hU : ∀ q ∈ C.U, q.1 ≠ p := fun q hq z => hnp (z ▸ (R.uu q hq).2.1)
  have R0 := R.allocO (o := .dK []) hp
  have RU : RelO { C with U := (p, .dK []) :: C.U } Γ (p :: O) σ (upd H p (.dK [])) := R0.congrU fun q hq => by
    rcases List.mem_cons.mp hq with z | z
    · subst z; exact ⟨upd_same, List.mem_cons_self, fun i m => hnp (R.mutIn m)⟩
    · exact R0.uu q z
  refine hk _ Γ (p :: O) σ _ _ _ RU h fun rk Γ1 x H1 R1 e1 q1 => ?_
  refine hv _ Γ1 (p :: O) σ H1 _ _ R1.rel q1 fun rv Γ2 y H2 R2 e2 q2 => ?_
  obtain ⟨kd, k, dv, hkd, hko, hdv, q⟩ := q2
  have ex : x = kV k := keyO_ok ((R1.pend.mono e2.1).b2 R2.rel hkd) hko
  have ry : Rep C.K (hide (p :: O) H2) y dv := R2.pend.dat hdv
  have up := R2.rel.uu _ List.mem_cons_self
  have RC : RelO C Γ2 (p :: O) σ H2 := R2.rel.backU fun q hq => List.mem_cons_of_mem _ hq
  have Ru := RC.updFree (o := .dK [(k, y)]) List.mem_cons_self h0 up.2.2 hU
  have e5 : hide (p :: O) (upd H2 p (.dK [(k, y)])) = hide (p :: O) H2 := hide_mut List.mem_cons_self
  have RL := (Ru.letgo h0 up.2.2 hU (O' := O) fun a => ⟨fun h => ⟨List.mem_cons_of_mem _ h, fun z => hnp (z ▸ h)⟩, fun h => (List.mem_cons.mp h.1).resolve_left h.2⟩).1
  refine ⟨up.1, [(k, y)], by rw [ex]; rfl, by simp, ?_⟩
  rw [show mergeK [] [(k, y)] = [(k, y)] from rfl]
  refine kk (.fr (.dic [(k, dv)])) Γ2 _ _ ⟨RL, p, _, rfl, upd_same, hnp, h0, ?_, Ru⟩ (.fr ?_) q
  · rw [e5]
    exact .dic (.cons ry .nil)
  · show Same (hide O H) (hide (p :: O) (upd H2 p (.dK [(k, y)])))
    rw [e5]
    exact L2.Same.trans (hide_newO hp) (L2.Same.trans e1.1 e2.1)
theorem de_dict1 (hk : ∀ U, DE X { C with U := U } k tk mk) (hv : ∀ U, DE X { C with U := U } v tv mv) : DE X C (.Dict [some k] [v] pos) (tDisp [(tk, tv)]) (mDict1 mk mv) := ⟨pe_disp (pps_cons (hk C.U).pe (hv C.U).pe pps_nil) rfl rfl (by simp) (by simp), sim_dict1 (fun U => (hk U).sim) fun U => (hv U).sim⟩
end
/-! ### a dict that is not changed any more: locked -/
def lockD : D → Option D
  | .dic kvs => some (.dkl kvs)
  | .dit kvs => some (.dtl kvs)
  | _ => none
/-- a new dict, from now on shared -/
def mLock (m : DTE) : DTE := fun Γ Q => m Γ fun r Γ1 => ∃ d d', r = .fr d ∧ lockD d = some d' ∧ Q (.val d') Γ1
def tLck (t : TE) : TE := fun σ H Q => t σ H fun x H1 => ∃ a u, x = .ref a ∧ H1 a = some u ∧ Mut (some u) ∧ ∀ od, Q x (upd H1 a (.frz od u))
theorem pe_lck {X : Cx} {e : Expr} {t : TE} (h : PE X e t) : PE X e (tLck t) := by
  refine ⟨fun pins s σ H Q I hw => ?_⟩
  refine thn (h.run pins s σ H _ I hw) fun v s1 ⟨x, H1, I1, r, a, u, ex, hu, mu, q⟩ => ?_
  obtain ⟨od, I2⟩ := I1.lock hu mu
  exact ⟨x, _, I2, r, q od⟩
section
variable {X : Cx} {C : Ctx} {te : TE} {me : DTE} {e : Expr}
theorem lock_own {K : Fg} {H : Hp} {o : HO} {d d' : D} (h : OwnOk K H o d) (e : lockD d = some d') : Mut (some o) ∧ ∀ (a : Addr) (od : Obj) (H' : Hp), Same H H' → H' a = some (.frz od o) → Rep K H' (.ref a) d' := by
  cases h with
  | dic r => cases e; exact ⟨trivial, fun a od H' es hH => .dkl hH (r.mono es)⟩
  | dit r => cases e; exact ⟨trivial, fun a od H' es hH => .dtl hH (r.mono es)⟩
  | lst r => cases e
  | obj _ r => cases e
theorem sim_lock (he : SimE C te me) : SimE C (tLck te) (mLock me) := fun Γ O σ H Qd Q R h k => by
  refine he Γ O σ H _ _ R h fun r Γ1 x H1 R1 e1 q1 => ?_
  obtain ⟨d, d', rfl, hd, q⟩ := q1
  obtain ⟨R0, p, o, rfl, hpp, hnp, h0, ho, RO⟩ := R1
  obtain ⟨mu, rep⟩ := lock_own ho hd
  refine ⟨p, o, rfl, hpp, mu, fun od => ?_⟩
  have hm : ∀ i, ¬ MutAt Γ1 σ i p := fun i m => hnp (R0.mutIn m)
  have hU : ∀ q ∈ C.U, q.1 ≠ p := fun q hq z => hnp (z ▸ (R0.uu q hq).2.1)
  have Ru := RO.updFree (o := .frz od o) List.mem_cons_self h0 hm hU
  have e5 : hide (p :: O) (upd H1 p (.frz od o)) = hide (p :: O) H1 := hide_mut List.mem_cons_self
  have L := Ru.letgo h0 hm hU (O' := O) fun a => ⟨fun h => ⟨List.mem_cons_of_mem _ h, fun z => hnp (z ▸ h)⟩, fun h => (List.mem_cons.mp h.1).resolve_left h.2⟩
  have es : Same (hide (p :: O) H1) (hide O (upd H1 p (.frz od o))) := by rw [← e5]; exact L.2
  refine k (.val d') Γ1 _ _ ⟨L.1, ?_⟩ (.val (L2.Same.trans (e1.2 d p rfl rfl) es)) q
  exact rep p od _ es (by rw [hide_out hnp]; exact upd_same)
theorem de_lock (h : DE X C e te me) : DE X C e (tLck te) (mLock me) := ⟨pe_lck h.pe, sim_lock h.sim⟩
end
/-- an own dict is not changed any more -/
def mFrzL (i : Nat) (m : DTS) : DTS := fun De Γ => ∃ d d', Γ[i]? = some (.ow d) ∧ lockD d = some d' ∧ m De (Γ.set i (.sh d'))
end DL
/-! the data layer, part 58: walks over dicts; the evaluator's lemmas for dicts -/
namespace DL
open PySem PySem.Spec PyProof.Rows L2
theorem room1 {n : Nat} (h : n + 65 < cLine) : n + 1 < cLine := by omega
def itemD (p : L2.Key × D) : D := .tup [keyD p.1, p.2]
def mKeysW (m : DTE) : DTI := fun Γ Q => m Γ fun r Γ1 => ∃ kvs, r = .val (.dkl kvs) ∧ ∀ o vs, Q (.v2 (.pnK o vs) (.dkl kvs)) (kvs.map fun p => keyD p.1) Γ1
def mItemsW (m : DTE) : DTI := fun Γ Q => m Γ fun r Γ1 => ∃ kvs, r = .val (.dkl kvs) ∧ ∀ o vs, Q (.v2 (.pnK o vs) (.dkl kvs)) (kvs.map itemD) Γ1
def mValsW (m : DTE) : DTI := fun Γ Q => m Γ fun r Γ1 => ∃ kvs, r = .val (.dkl kvs) ∧ ∀ o vs, Q (.v2 (.pnK o vs) (.dkl kvs)) (kvs.map (·.2)) Γ1
section
variable {K : Fg} {d : Addr} {o : Obj} {vs : List (L2.Key × V)} {kvs : List (L2.Key × D)}
theorem repK_get {H : Hp} : ∀ {vs : List (L2.Key × V)} {kvs : List (L2.Key × D)} {i : Nat} {k : L2.Key} {v : V}, RepK K H vs kvs → vs[i]? = some (k, v) → ∃ dv, kvs[i]? = some (k, dv) ∧ Rep K H v dv
  | _, _, 0, k, v, .cons h _, e => by
    simp at e
    obtain ⟨rfl, rfl⟩ := e
    exact ⟨_, rfl, h⟩
  | _, _, i + 1, k, v, .cons _ t, e => by
    obtain ⟨dv, a, b⟩ := repK_get (i := i) t (by simpa using e)
    exact ⟨dv, by simpa using a, b⟩
  | _, _, i, k, v, .nil, e => by simp at e
def gK (K : Fg) (d : Addr) (o : Obj) (vs : List (L2.Key × V)) (kvs : List (L2.Key × D)) : List Addr → Hp → Prop := fun O H => Rep K (hide O H) (.ref d) (.pnK o vs) ∧ Rep K (hide O H) (.ref d) (.dkl kvs)
theorem gK_at {O : List Addr} {H : Hp} (h : gK K d o vs kvs O H) : H d = some (.frz o (.dK vs)) ∧ RepK K (hide O H) vs kvs := by
  obtain ⟨h1, h2⟩ := h
  cases h1 with
  | pnK h1 =>
    cases h2 with
    | dkl h2 r =>
      rw [h1] at h2
      cases h2
      exact ⟨hide_same _ _ h1, r⟩
theorem itd_items (hl : vs.length = kvs.length) : ItD K (Iti d o vs) vs.length (gK K d o vs kvs) (kvs.map itemD) where
  len := by rw [List.length_map]; exact hl.symm
  go := fun i O H h hi => ⟨(gK_at h).1, hi⟩
  stop := fun O H h => ⟨(gK_at h).1, Nat.le_refl _⟩
  yld := fun i O H x H' h hi y => by
    obtain ⟨T, k, v, hk, rfl, hT, rfl⟩ := y
    obtain ⟨dv, a, b⟩ := repK_get (gK_at h).2 hk
    exact ⟨itemD (k, dv), by rw [List.getElem?_map, a]; rfl, .inr ⟨T, [kV k, v], [keyD k, dv], rfl, hT, rfl, .cons (keyD_rep k) (.cons b .nil), rfl⟩⟩
end
section
variable {X : Cx} {C : Ctx} {tg e : Expr} {te : TE} {me : DTE} {apos cpos : Pos}
theorem dkl_at {K : Fg} {O : List Addr} {H : Hp} {x : V} {kvs : List (L2.Key × D)} (h : Rep K (hide O H) x (.dkl kvs)) : ∃ d o vs, x = .ref d ∧ H d = some (.frz o (.dK vs)) ∧ vs.length = kvs.length ∧ Rep K (hide O H) (.ref d) (.pnK o vs) ∧ Rep K (hide O H) (.ref d) (.dkl kvs) := by
  cases h with
  | dkl h r => exact ⟨_, _, _, rfl, hide_same _ _ h, r.len, .pnK h, .dkl h r⟩
theorem di_items {elts : List Expr} {kk : Nat} {tpos : Pos} (h : DE X C e te me) (hbase : attributeBase e "items" X.env (eval e X.env) = eval e X.env := by rfl) (hline : (apos.endLine == cpos.line) = true := by rfl) : DI X C (.Tuple elts kk tpos) (.Call (.Attribute e "items" apos) [] [] cpos) (iItems te) (mItemsW me) := by
  refine ⟨pi_items h.pe hbase hline, fun Γ O σ H Qd R hR hm k => ?_⟩
  refine h.sim Γ O σ H _ _ hR hm fun r Γ1 v H1 R1 e1 q1 => ?_
  obtain ⟨kvs, rfl, q⟩ := q1
  obtain ⟨d, o, vs, rfl, hd, hl, p1, p2⟩ := dkl_at R1.2
  exact ⟨d, o, vs, rfl, hd, k (.v2 (.pnK o vs) (.dkl kvs)) _ Γ1 _ H1 _ _ R1.1 e1.1 (itd_items hl) ⟨_, _, p1, p2, fun _ _ a b => ⟨a, b⟩⟩ (q o vs)⟩
end
/-! ### the evaluator -/
section
variable {Γ Γ1 Γ2 : Env} {Q : QE} {mo mi mx : DTE} {m : DTS} {d d' : D} {i : Nat} {nx : Env → Prop}
def kwk (f : L2.Key × D → D) (r : Res) (Γ : Env) (Q : Src → List D → Env → Prop) : Prop := ∃ kvs, r = .val (.dkl kvs) ∧ ∀ o vs, Q (.v2 (.pnK o vs) (.dkl kvs)) (kvs.map f) Γ
theorem w_KeysW {Q : Src → List D → Env → Prop} (h : mo Γ fun r Γ1 => kwk (fun p => keyD p.1) r Γ1 Q) : mKeysW mo Γ Q := h
theorem w_ItemsW {Q : Src → List D → Env → Prop} (h : mo Γ fun r Γ1 => kwk itemD r Γ1 Q) : mItemsW mo Γ Q := h
theorem w_ValsW {Q : Src → List D → Env → Prop} (h : mo Γ fun r Γ1 => kwk (·.2) r Γ1 Q) : mValsW mo Γ Q := h
theorem w_kw {f : L2.Key × D → D} {Q : Src → List D → Env → Prop} {kvs : List (L2.Key × D)} (h : ∀ o vs, Q (.v2 (.pnK o vs) (.dkl kvs)) (kvs.map f) Γ) : kwk f (.val (.dkl kvs)) Γ Q := ⟨kvs, rfl, h⟩
theorem i_dget {c k : D} {Q : Res → Prop} (h1 : lookD c k = some (some d)) (h : Q (.val d)) : dgetD c k Q := ⟨d, h1, h⟩
theorem i_din {c k : D} {o : Option D} {Q : Res → Prop} (h1 : lookD c k = some o) (h : Q (.val (.bl o.isSome))) : dinD k c Q := ⟨o, h1, h⟩
theorem i_dnin {c k : D} {o : Option D} {Q : Res → Prop} (h1 : lookD c k = some o) (h : Q (.val (.bl (!o.isSome)))) : dninD k c Q := ⟨o, h1, h⟩
def g2b (ro rk rx : Res) (Γ : Env) (Q : QE) : Prop := ∃ c k o dx, rd Γ ro = some c ∧ rd Γ rk = some k ∧ lookD c k = some o ∧ dat rx = some dx ∧ Q (.val (o.getD dx)) Γ
def g2a (ro : Res) (mi mx : DTE) (Γ : Env) (Q : QE) : Prop := (∃ c, rd Γ ro = some c ∧ isDic c = true) ∧ mi Γ fun rk Γ2 => mx Γ2 fun rx Γ3 => g2b ro rk rx Γ3 Q
theorem e_DGet2 (h : mo Γ fun ro Γ1 => g2a ro mi mx Γ1 Q) : mDGet2 mo mi mx Γ Q := h
theorem e_g2a {ro : Res} {c : D} (h1 : rd Γ ro = some c) (h2 : isDic c = true) (h : mi Γ fun rk Γ2 => mx Γ2 fun rx Γ3 => g2b ro rk rx Γ3 Q) : g2a ro mi mx Γ Q := ⟨⟨c, h1, h2⟩, h⟩
theorem i_get2 {ro rk rx : Res} {c k dx : D} {o : Option D} (h1 : rd Γ ro = some c) (h2 : rd Γ rk = some k) (h3 : lookD c k = some o) (h4 : dat rx = some dx) (h : Q (.val (o.getD dx)) Γ) : g2b ro rk rx Γ Q := ⟨c, k, o, dx, h1, h2, h3, h4, h⟩
def dpk (rv ro ri : Res) (Γ : Env) (nx : Env → Prop) : Prop := ∃ i c k dv c', ro = .pl i ∧ mcont Γ[i]? = some c ∧ rd Γ ri = some k ∧ dat rv = some dv ∧ putD c k dv = some c' ∧ ∃ Γ4, setC Γ i c' = some Γ4 ∧ nx Γ4
theorem s_DPut {D0 : DEnds} {mv : DTE} (h : mv Γ fun rv Γ1 => mo Γ1 fun ro Γ2 => mi Γ2 fun ri Γ3 => dpk rv ro ri Γ3 D0.nx) : mDPut mo mi mv D0 Γ := h
theorem s_dput {rv ri : Res} {c k dv c' : D} {Γ4 : Env} (h1 : mcont Γ[i]? = some c) (h2 : rd Γ ri = some k) (h3 : dat rv = some dv) (h4 : putD c k dv = some c') (h5 : setC Γ i c' = some Γ4) (h : nx Γ4) : dpk rv (.pl i) ri Γ nx := ⟨i, c, k, dv, c', rfl, h1, h2, h3, h4, Γ4, h5, h⟩
def lkk (r : Res) (Γ : Env) (Q : QE) : Prop := ∃ d d', r = .fr d ∧ lockD d = some d' ∧ Q (.val d') Γ
theorem e_Lock {m : DTE} (h : m Γ fun r Γ1 => lkk r Γ1 Q) : mLock m Γ Q := h
theorem e_lkK {kvs : List (L2.Key × D)} (h : Q (.val (.dkl kvs)) Γ) : lkk (.fr (.dic kvs)) Γ Q := ⟨_, _, rfl, rfl, h⟩
theorem e_lkT {kvs : List (List L2.Key × D)} (h : Q (.val (.dtl kvs)) Γ) : lkk (.fr (.dit kvs)) Γ Q := ⟨_, _, rfl, rfl, h⟩
theorem s_frzL {D0 : DEnds} (h1 : Γ[i]? = some (.ow d)) (h2 : lockD d = some d') (h3 : Γ.set i (.sh d') = Γ1) (h : m D0 Γ1) : mFrzL i m D0 Γ := ⟨d, d', h1, h2, by rw [h3]; exact h⟩
def d1k (rk rv : Res) (Γ : Env) (Q : QE) : Prop := ∃ kd k dv, rd Γ rk = some kd ∧ keyO kd = some k ∧ dat rv = some dv ∧ Q (.fr (.dic [(k, dv)])) Γ
theorem e_Dict1 {mk mv : DTE} (h : mk Γ fun rk Γ1 => mv Γ1 fun rv Γ2 => d1k rk rv Γ2 Q) : mDict1 mk mv Γ Q := h
theorem e_d1 {rk rv : Res} {k : Int} {dv : D} (h1 : rd Γ rk = some (.int k)) (h2 : dat rv = some dv) (h : Q (.fr (.dic [(.inl k, dv)])) Γ) : d1k rk rv Γ Q := ⟨_, _, dv, h1, rfl, h2, h⟩
theorem e_Dict0T (h : Q (.fr (.dit [])) Γ) : mDict0T Γ Q := h
end
/-! ### dicts of ints -/
def prK (l : List (Int × Int)) : List (L2.Key × D) := l.map fun p => (.inl p.1, .int p.2)
def lookI (l : List (Int × Int)) (k : Int) : Option Int := (l.find? fun p => decide (p.1 = k)).map (·.2)
def putI (l : List (Int × Int)) (k v : Int) : List (Int × Int) := if (l.any fun p => decide (p.1 = k)) = true then l.map (fun p => if p.1 = k then (p.1, v) else p) else l ++ [(k, v)]
theorem inl_dec (a b : Int) : decide ((Sum.inl a : L2.Key) = Sum.inl b) = decide (a = b) := by
  by_cases h : a = b
  · subst h; simp
  · rw [decide_eq_false h, decide_eq_false (fun z => h (by injection z))]
theorem look_prK (k : Int) : ∀ l : List (Int × Int), lookE (prK l) (.inl k) = (lookI l k).map D.int
  | [] => rfl
  | p :: l => by
    have ih := look_prK k l
    unfold lookE lookI prK at *
    rw [List.map_cons, List.find?_cons, List.find?_cons]
    simp only [inl_dec]
    by_cases h : p.1 = k
    · rw [decide_eq_true h]; rfl
    · rw [decide_eq_false h]; exact ih
theorem any_prK (k : Int) (l : List (Int × Int)) : ((prK l).any fun kv => decide (kv.1 = (Sum.inl k : L2.Key))) = l.any fun p => decide (p.1 = k) := by
  unfold prK
  rw [List.any_map]
  congr 1
  funext p
  exact inl_dec _ _
theorem put_prK (l : List (Int × Int)) (k v : Int) : putE (prK l) (.inl k) (.int v) = prK (putI l k v) := by
  unfold putE putI
  rw [any_prK]
  split
  · unfold prK
    rw [List.map_map, List.map_map]
    refine List.map_congr_left fun p _ => ?_
    show (if (Sum.inl p.1 : L2.Key) = Sum.inl k then _ else _) = _
    by_cases h : p.1 = k
    · rw [if_pos (by rw [h])]; simp [h]
    · rw [if_neg fun z => h (by injection z)]; simp [h]
  · unfold prK
    rw [List.map_append]; rfl
theorem prK_len (l : List (Int × Int)) : (prK l).length = l.length := List.length_map ..
theorem lookD_prK (l : List (Int × Int)) (k : Int) : lookD (.dkl (prK l)) (.int k) = some ((lookI l k).map D.int) ∧ lookD (.dic (prK l)) (.int k) = some ((lookI l k).map D.int) := by
  have h := look_prK k l
  exact ⟨congrArg some h, congrArg some h⟩
theorem putD_prK {l : List (Int × Int)} {k v : Int} (h : l.length < 100000) : putD (.dic (prK l)) (.int k) (.int v) = some (.dic (prK (putI l k v))) := by
  show (if (prK l).length < 100000 then some (D.dic (putE (prK l) (.inl k) (.int v))) else none) = _
  rw [if_pos (by rw [prK_len]; exact h), put_prK]
theorem lookI_put (l : List (Int × Int)) (k j v : Int) : lookI (putI l k v) j = if j = k then some v else lookI l j := by
  unfold putI
  split
  · rename_i h
    induction l with
    | nil => simp at h
    | cons p l ih =>
      unfold lookI at *
      rw [List.map_cons, List.find?_cons, List.find?_cons]
      by_cases hp : p.1 = k
      · rw [if_pos hp]
        dsimp only
        by_cases hj : j = k
        · rw [if_pos hj, decide_eq_true (by rw [hp, hj])]; rfl
        · rw [if_neg hj, decide_eq_false (fun z => hj (by rw [← z, hp]))]
          dsimp only
          by_cases ha : (l.any fun p => decide (p.1 = k)) = true
          · have := ih ha
            rw [if_neg hj] at this
            exact this
          · have e : l.map (fun p => if p.1 = k then (p.1, v) else p) = l := by
              conv => rhs; rw [← List.map_id l]
              refine List.map_congr_left fun q hq => ?_
              rw [if_neg fun z => ha (List.any_eq_true.mpr ⟨q, hq, decide_eq_true z⟩)]; rfl
            rw [e]
      · rw [if_neg hp]
        rw [List.any_cons, decide_eq_false hp, Bool.false_or] at h
        by_cases hj : p.1 = j
        · rw [decide_eq_true hj, if_neg fun z => hp (by rw [hj, z])]
        · rw [decide_eq_false hj]; exact ih h
  · rename_i h
    unfold lookI
    rw [List.find?_append]
    have hn : ∀ p ∈ l, ¬ p.1 = k := fun p hp z => h (List.any_eq_true.mpr ⟨p, hp, decide_eq_true z⟩)
    by_cases hj : j = k
    · subst hj
      rw [if_pos rfl, List.find?_eq_none.mpr fun p hp => by simpa using hn p hp]
      simp
    · rw [if_neg hj]
      have e : ([(k, v)] : List (Int × Int)).find? (fun p => decide (p.1 = j)) = none := by
        rw [List.find?_cons, decide_eq_false fun z => hj z.symm]; rfl
      rw [e, Option.or_none]
end DL
/-! the data layer, part 59: the least of rows of ints; pairs of ints sorted -/
namespace DL
open PySem PySem.Spec PyProof.Rows L2
def hd0 (r : List Int) : Int := r.getD 0 0
def ltR (a b : List Int) : Bool := Ob.lexAt (fun j => decide (a.getD j 0 = b.getD j 0)) (fun j => decide (a.getD j 0 < b.getD j 0)) (decide (a.length < b.length)) 0 (min a.length b.length)
theorem ltR_T {a b : List Int} (ha : 0 < a.length) (hb : 0 < b.length) (h : ltR a b = true) : hd0 a ≤ hd0 b := by
  unfold ltR at h
  obtain ⟨k, hk⟩ : ∃ k, min a.length b.length = k + 1 := ⟨min a.length b.length - 1, by omega⟩
  rw [hk, Ob.lexAt_succ] at h
  unfold hd0
  split at h
  · rename_i e; have := of_decide_eq_true e; omega
  · have := of_decide_eq_true h; omega
theorem ltR_F {a b : List Int} (ha : 0 < a.length) (hb : 0 < b.length) (h : ltR a b = false) : hd0 b ≤ hd0 a := by
  unfold ltR at h
  obtain ⟨k, hk⟩ : ∃ k, min a.length b.length = k + 1 := ⟨min a.length b.length - 1, by omega⟩
  rw [hk, Ob.lexAt_succ] at h
  unfold hd0
  split at h
  · rename_i e; have := of_decide_eq_true e; omega
  · have := of_decide_eq_false h; omega
theorem best_row {rows : Nat → List Int} {n : Nat} (hp : ∀ i, i < n → 0 < (rows i).length) : ∀ k, k < n → PySem.argBest (fun i j => ltR (rows i) (rows j)) k ≤ k ∧ ∀ j, j ≤ k → hd0 (rows (PySem.argBest (fun i j => ltR (rows i) (rows j)) k)) ≤ hd0 (rows j)
  | 0, _ => ⟨Nat.le_refl _, fun j hj => by obtain rfl : j = 0 := by omega
                                           exact Int.le_refl _⟩
  | k + 1, h => by
    obtain ⟨h1, h2⟩ := best_row hp k (by omega)
    have pb := hp (PySem.argBest (fun i j => ltR (rows i) (rows j)) k) (by omega)
    have pk := hp (k + 1) h
    rw [PySem.argBest]
    generalize PySem.argBest (fun i j => ltR (rows i) (rows j)) k = b at *
    by_cases hc : ltR (rows (k + 1)) (rows b) = true
    · rw [if_pos hc]
      have := ltR_T pk pb hc
      refine ⟨Nat.le_refl _, fun j hj => ?_⟩
      by_cases e : j = k + 1
      · subst e; exact Int.le_refl _
      · have := h2 j (by omega); omega
    · rw [if_neg hc]
      have := ltR_F pk pb (by simpa using hc)
      refine ⟨by omega, fun j hj => ?_⟩
      by_cases e : j = k + 1
      · subst e; exact this
      · exact h2 j (by omega)
/-- min(xs), xs a list of tuples of ints, not empty -/
def rMinLT (K : Fg) : List V → Hp → VK → Prop := fun vs H Q => ∃ (a : Addr) (xs : List V) (rows : List (List Int)), vs = [V.ref a] ∧ SqL K H a xs ∧ rows.length = xs.length ∧ 0 < xs.length ∧
  (∀ i x, xs[i]? = some x → ∃ t, x = V.ref t ∧ SqT K H t ((rows.getD i []).map V.int)) ∧ (∀ i, i < xs.length → 0 < (rows.getD i []).length) ∧
  ∀ i x, xs[i]? = some x → (∀ j, j < xs.length → hd0 (rows.getD i []) ≤ hd0 (rows.getD j [])) → Q x H
theorem cr_minLT {X : Cx} (hc : X.calm = true) (hu : X.A.units + 65 < cLine) : CallR X (.builtin "min") (rMinLT X.K) := by
  intro pins s σ H vs us Q I r h
  obtain ⟨a, xs, rows, rfl, hs, hl, h0, hx, hp, q⟩ := h
  obtain ⟨its, rv, pl, _⟩ := I.list hs
  rw [Vals.ref1 r]
  have hlen : xs.length = its.length := rv.length
  have at_ : ∀ (i : Nat) (v : Value), its.toArray[i]? = some v → ∃ x, xs[i]? = some x ∧ RelV x v := fun i v hv => by
    rw [List.getElem?_toArray] at hv
    have hi : i < its.length := (List.getElem?_eq_some_iff.mp hv).1
    have hx : xs[i]? = some xs[i] := List.getElem?_eq_getElem (by omega)
    obtain ⟨w, hw, rw'⟩ := Vals.get rv hx
    rw [hv] at hw
    cases hw
    exact ⟨_, hx, rw'⟩
  have cmp : PySem.CmpIn X.prog X.w X.A.in1 .Lt s.heap (fun i v => its.toArray[i]? = some v) (fun i j => ltR (rows.getD i []) (rows.getD j [])) := fun i j vi vj s' Q E hk hi hj hq => by
    obtain ⟨x, ex, rx⟩ := at_ i vi hi
    obtain ⟨y, ey, ry⟩ := at_ j vj hj
    obtain ⟨t, rfl, ht⟩ := hx i x ex
    obtain ⟨u, rfl, hu'⟩ := hx j y ey
    obtain rfl : vi = Value.ref t := rx
    obtain rfl : vj = Value.ref u := ry
    obtain ⟨i1, r1, p1, _⟩ := I.tuple ht
    obtain ⟨i2, r2, p2, _⟩ := I.tuple hu'
    have a1 : IntsAre i1 (rows.getD i []) := Vals.ints r1
    have a2 : IntsAre i2 (rows.getD j []) := Vals.ints r2
    have e1 : i1.toArray.size = (rows.getD i []).length := by rw [List.size_toArray]; exact a1.length
    have e2 : i2.toArray.size = (rows.getD j []).length := by rw [List.size_toArray]; exact a2.length
    have q1 : s'.heap.IsTuple t i1.toArray := by
      obtain ⟨ob, h1, h2, n, h3⟩ := p1
      exact ⟨ob, hk _ _ h1, h2, n, h3⟩
    have q2 : s'.heap.IsTuple u i2.toArray := by
      obtain ⟨ob, h1, h2, n, h3⟩ := p2
      exact ⟨ob, hk _ _ h1, h2, n, h3⟩
    have at1 : ∀ j' (h1 : j' < i1.toArray.size), ∃ t, i1.toArray[j'] = .int ((rows.getD i []).getD j' 0) t := fun j' h1 => PyProof.Rows.IntsAre.int_at a1 _ _ (by simp at h1; simp [h1])
    have at2 : ∀ j' (h1 : j' < i2.toArray.size), ∃ t, i2.toArray[j'] = .int ((rows.getD j []).getD j' 0) t := fun j' h1 => PyProof.Rows.IntsAre.int_at a2 _ _ (by simp at h1; simp [h1])
    have R := Ob.RcOp.tuples_lt (A := X.A.in1) (s := s') (e := fun j' => decide ((rows.getD i []).getD j' 0 = (rows.getD j []).getD j' 0)) (r := fun j' => decide ((rows.getD i []).getD j' 0 < (rows.getD j []).getD j' 0)) q1 q2 (by show X.A.units + 1 < cLine; omega) (fun j' h1 h2 => by
      obtain ⟨t, et⟩ := at1 j' h1
      obtain ⟨t', et'⟩ := at2 j' h2
      rw [et, et']
      have z : ((rows.getD i []).getD j' 0 == (rows.getD j []).getD j' 0) = decide ((rows.getD i []).getD j' 0 = (rows.getD j []).getD j' 0) := by
        by_cases q : (rows.getD i []).getD j' 0 = (rows.getD j []).getD j' 0
        · rw [decide_eq_true q]; exact beq_iff_eq.mpr q
        · rw [decide_eq_false q]; exact beq_eq_false_iff_ne.mpr q
      rw [← z]
      exact SeqAt.EqAt.int_int _ _ _ _) (fun j' h1 h2 _ => by
      obtain ⟨t, et⟩ := at1 j' h1
      obtain ⟨t', et'⟩ := at2 j' h2
      rw [et, et']
      exact Ob.RcOp.lt_int _ _ _ _)
    rw [e1, e2] at R
    exact R X.prog X.w E Q hq
  have hsz : its.toArray.size = xs.length := by rw [List.size_toArray, hlen]
  refine PySem.call_min_walkH (PySem.W.iter_listW (A := X.A.in1) (I.ok.hd hc) pl.isList fun s₂ e W st hfp hw hk => ?_)
  refine ⟨_, _, _, _, _, _, _, s.heap, _, rfl, W, st, hfp, by omega, hw, hk, cmp, fun v s' hP m => ?_⟩
  obtain ⟨h', tk, rfl, hk'⟩ := PySem.W.moved_old e rfl m
  obtain ⟨b1, b2⟩ := best_row (rows := fun i => rows.getD i []) (n := xs.length) hp (its.toArray.size - 1) (by omega)
  obtain ⟨x, ex, rx⟩ := at_ _ v hP
  exact ⟨x, H, I.kept hk', rx, q _ x ex fun j hj => b2 j (by omega)⟩
/-! over data -/
def minTD : List D → (Res → Prop) → Prop
  | [.lst ds], Q => ∃ rows : List (List Int), ds = rows.map (fun r => D.tup (r.map D.int)) ∧ rows ≠ [] ∧ (∀ r ∈ rows, 0 < r.length) ∧ ∀ r ∈ rows, (∀ r' ∈ rows, hd0 r ≤ hd0 r') → Q (.val (.tup (r.map D.int)))
  | _, _ => False
def sortedPD : List D → (Res → Prop) → Prop
  | [.lst ds], Q => ∃ ps : List (Int × Int), ds = ps.map (fun p => D.tup [.int p.1, .int p.2]) ∧ ∀ ms : List (Int × Int), ms.Perm ps → ms.Pairwise (fun x y => ¬ (y.1 < x.1 ∨ (y.1 = x.1 ∧ y.2 < x.2))) → Q (.fr (.lst (ms.map fun p => D.tup [.int p.1, .int p.2])))
  | _, _ => False
section
variable {K : Fg} {X : Cx} {C : Ctx} {e : Expr} {es : List Expr} {tr : TA} {mr : DTA} {p pos : Pos}
theorem sim_minT : SimRC K (rMinLT K) minTD := fun O H vs ds Qd Q h q k => by
  unfold minTD at q
  split at q
  · obtain ⟨v, rfl, hb⟩ := h.one
    obtain ⟨a, xs, rfl, e, r⟩ := hb.lst
    obtain ⟨rows, rfl, hne, hp, q⟩ := q
    have hl : rows.length = xs.length := by rw [r.length, List.length_map]
    have h0 : 0 < xs.length := by rw [← hl]; exact List.length_pos_iff.mpr hne
    have get : ∀ i x, xs[i]? = some x → ∃ hi : i < rows.length, Rep K (hide O H) x (.tup (rows[i].map D.int)) := fun i x hx => by
      obtain ⟨d, hd, rd⟩ := r.getV hx
      rw [List.getElem?_map] at hd
      have hi : i < rows.length := by rw [hl]; exact (List.getElem?_eq_some_iff.mp hx).1
      rw [List.getElem?_eq_getElem hi] at hd
      cases hd
      exact ⟨hi, rd⟩
    have gd : ∀ i (hi : i < rows.length), rows.getD i [] = rows[i] := fun i hi => by rw [List.getD_eq_getElem?_getD, List.getElem?_eq_getElem hi]; rfl
    refine ⟨a, xs, rows, rfl, SqL.of e, hl, h0, fun i x hx => ?_, fun i hi => ?_, fun i x hx hm => ?_⟩
    · obtain ⟨hi, rx⟩ := get i x hx
      rw [gd i hi]
      cases rx with
      | tup ht rr => exact ⟨_, rfl, SqT.of (by rw [rr.ints] at ht; exact hide_same _ _ ht)⟩
    · rw [gd i (by omega)]
      exact hp _ (List.getElem_mem _)
    · obtain ⟨hi, rx⟩ := get i x hx
      refine k.val x _ rx (q rows[i] (List.getElem_mem _) fun r' hr' => ?_)
      obtain ⟨j, hj, rfl⟩ := List.mem_iff_getElem.mp hr'
      have := hm j (by omega)
      rw [gd i hi, gd j hj] at this
      exact this
  · exact q.elim
theorem de_minT (hc : X.calm = true) (hu : X.A.units + 65 < cLine) (hg : Gl X "min") (hm : X.mg "min" = none) (ha : DA X C (e :: es) tr mr) {K0 : Fg} (hK0 : X.K = K0 := by rfl) (hK : K0 = C.K := by rfl)
    (he : starEach (e :: es) X.env = (false, eval e X.env) :: starEach es X.env := by rfl) (hpl : (backTo pos (starEach es X.env)).any (·.1) = false := by rfl) :
    DE X C (.Call (.Name "min" p) (e :: es) [] pos) (tCB (rMinLT K0) tr) (mCB minTD mr) := by
  subst hK0
  exact (de_cb (cr_minLT hc hu) (by rw [hK]; exact sim_minT) hg hm (by decide +kernel) ha (he := he) (hpl := hpl))
def keyV (H : Hp) (x : V) : Int × Int := match x with
  | .ref t => match H t with
    | some (.tup [.int i, .int j]) => (i, j)
    | _ => (0, 0)
  | _ => (0, 0)
theorem sim_sortedP : SimRC K (rSortedPO K) sortedPD := fun O H vs ds Qd Q h q k => by
  unfold sortedPD at q
  split at q
  · obtain ⟨v, rfl, hb⟩ := h.one
    obtain ⟨a, xs, rfl, e, r⟩ := hb.lst
    obtain ⟨ps, rfl, q⟩ := q
    have key : ∀ {xs : List V} {ps : List (Int × Int)}, Reps K (hide O H) xs (ps.map fun p => D.tup [.int p.1, .int p.2]) → xs.map (keyV H) = ps ∧ ∀ x ∈ xs, ∃ t, x = V.ref t ∧ H t = some (.tup [.int (keyV H x).1, .int (keyV H x).2]) ∧ Rep K (hide O H) x (.tup [.int (keyV H x).1, .int (keyV H x).2]) := fun {xs ps} r => by
      induction ps generalizing xs with
      | nil => cases r; exact ⟨rfl, fun x hx => by cases hx⟩
      | cons p ps ih =>
        rw [List.map_cons] at r
        cases r with
        | cons rx rt =>
          obtain ⟨i1, i2⟩ := ih rt
          cases rx with
          | tup ht rr =>
            rename_i t vs
            obtain ⟨v1, v2, rfl, r1, r2⟩ := rr.two
            cases r1
            cases r2
            have ht' := hide_same _ _ ht
            have ek : keyV H (.ref t) = p := by unfold keyV; dsimp only; rw [ht']
            refine ⟨by rw [List.map_cons, i1, ek], fun x hx => ?_⟩
            rcases List.mem_cons.mp hx with rfl | hx
            · rw [ek]; exact ⟨t, rfl, ht', .tup ht (.cons (.int _) (.cons (.int _) .nil))⟩
            · exact i2 x hx
    obtain ⟨k1, k2⟩ := key r
    refine ⟨a, xs, keyV H, rfl, SqL.of e, fun x hx => ?_, fun ys p hs hst hn => ?_⟩
    · obtain ⟨t, e1, e2, _⟩ := k2 x hx
      exact ⟨t, e1, e2⟩
    · have rys : ∀ {ys : List V}, (∀ y ∈ ys, y ∈ xs) → Reps K (hide O H) ys ((ys.map (keyV H)).map fun p => D.tup [.int p.1, .int p.2]) := fun {ys} => by
        induction ys with
        | nil => intro _; exact .nil
        | cons y ys ih =>
          intro hy
          obtain ⟨t, _, _, ry⟩ := k2 y (hy y (List.mem_cons_self ..))
          exact .cons ry (ih fun z hz => hy z (List.mem_cons_of_mem _ hz))
      refine k.new p _ _ hn (.lst (rys fun y hy => hst.perm.mem_iff.mp hy)) (q _ (by rw [← k1]; exact hst.perm.map _) ?_)
      rw [List.pairwise_map]
      exact hs.imp fun hxy => SrtO.lexB_no.mp hxy
  · exact q.elim
theorem de_sortedP (hg : Gl X "sorted") (hm : X.mg "sorted" = none) (ha : DA X C (e :: es) tr mr) {K0 : Fg} (hK0 : X.K = K0 := by rfl) (hK : K0 = C.K := by rfl)
    (he : starEach (e :: es) X.env = (false, eval e X.env) :: starEach es X.env := by rfl) (hpl : (backTo pos (starEach es X.env)).any (·.1) = false := by rfl) :
    DE X C (.Call (.Name "sorted" p) (e :: es) [] pos) (tCB (rSortedPO K0) tr) (mCB sortedPD mr) := by
  subst hK0
  exact (de_cb cr_sortedPO (by rw [hK]; exact sim_sortedP) hg hm (by decide +kernel) ha (he := he) (hpl := hpl))
end
end DL
/-! the data layer, part 60: d.get(k) -/
namespace DL
open PySem PySem.Spec PyProof.Rows L2
def mDGet1 (mo mk : DTE) : DTE := fun Γ Q => mo Γ fun ro Γ1 => (∃ c, rd Γ1 ro = some c ∧ isDic c = true) ∧ mk Γ1 fun rk Γ2 => ∃ c k o, rd Γ2 ro = some c ∧ rd Γ2 rk = some k ∧ lookD c k = some o ∧ Q (.val (o.getD .non)) Γ2
section
variable {Γ : Env} {Q : QE} {mo mi : DTE}
def g1b (ro rk : Res) (Γ : Env) (Q : QE) : Prop := ∃ c k o, rd Γ ro = some c ∧ rd Γ rk = some k ∧ lookD c k = some o ∧ Q (.val (o.getD .non)) Γ
def g1a (ro : Res) (mi : DTE) (Γ : Env) (Q : QE) : Prop := (∃ c, rd Γ ro = some c ∧ isDic c = true) ∧ mi Γ fun rk Γ2 => g1b ro rk Γ2 Q
theorem e_DGet1 (h : mo Γ fun ro Γ1 => g1a ro mi Γ1 Q) : mDGet1 mo mi Γ Q := h
theorem e_g1a {ro : Res} {c : D} (h1 : rd Γ ro = some c) (h2 : isDic c = true) (h : mi Γ fun rk Γ2 => g1b ro rk Γ2 Q) : g1a ro mi Γ Q := ⟨⟨c, h1, h2⟩, h⟩
end
end DL
/-! the data layer, part 61: sorted(d), d a dict with int keys, any number of them -/
namespace DL
open PySem PySem.Spec PyProof.Rows L2
/-! ### x = e, where e answers a plain value or a fresh object -/
def sel (i : Nat) (r : Res) (Γ : Env) (nx : Env → Prop) : Prop := (∃ d, r = .val d ∧ freeB Γ i = true ∧ nx (Γ.set i (.sh d))) ∨ ∃ d, r = .fr d ∧ freeB Γ i = true ∧ nx (Γ.set i (.ow d))
def mSetE (i : Nat) (ma : DTE) : DTS := fun D Γ => ma Γ fun r Γ1 => sel i r Γ1 D.nx
section
variable {X : Cx} {C : Ctx} {st : Stmt} {e : Expr} {te : TE} {me : DTE} {Γ Γ' : Env} {nx bk ct : Env → Prop} {rt : Res → Env → Prop} {i : Nat} {d : D}
theorem s_SetE {ma : DTE} (h : ma Γ fun r Γ1 => sel i r Γ1 nx) : mSetE i ma (.mk nx rt bk ct) Γ := h
theorem s_setEv (h2 : freeB Γ i = true) (h3 : Γ.set i (.sh d) = Γ') (h : nx Γ') : sel i (.val d) Γ nx := .inl ⟨_, rfl, h2, by rw [h3]; exact h⟩
theorem s_setEo (h2 : freeB Γ i = true) (h3 : Γ.set i (.ow d) = Γ') (h : nx Γ') : sel i (.fr d) Γ nx := .inr ⟨_, rfl, h2, by rw [h3]; exact h⟩
end
/-! ### len(d), d a shared dict -/
end DL
/-! the data layer, part 62: goals by kind (the evaluator looks only at the lemmas of a goal's kind) -/
namespace DL
open PySem PySem.Spec PyProof.Rows L2
theorem gkE {F : Env → QE → Prop} {a : Env} {b : QE} (h : F a b) : F a b := h
theorem gkO {F : D → (Res → Prop) → Prop} {a : D} {b : Res → Prop} (h : F a b) : F a b := h
theorem gkB {F : List D → (Res → Prop) → Prop} {a : List D} {b : Res → Prop} (h : F a b) : F a b := h
theorem gkS {F : DEnds → Env → Prop} {a : DEnds} {b : Env} (h : F a b) : F a b := h
theorem gkT {F : Env → (Env → Prop) → Prop} {a : Env} {b : Env → Prop} (h : F a b) : F a b := h
theorem gkW {F : Env → (Src → List D → Env → Prop) → Prop} {a : Env} {b : Src → List D → Env → Prop} (h : F a b) : F a b := h
theorem gkL {F : Env → (List Res → Env → Prop) → Prop} {a : Env} {b : List Res → Env → Prop} (h : F a b) : F a b := h
theorem gkP {p : Prop} [Decidable p] {a b : Prop} (h : if p then a else b) : if p then a else b := h
theorem gkX {F : (Bool → D → List D → Prop) → EdT → Prop} {a : Bool → D → List D → Prop} {b : EdT} (h : F a b) : F a b := h
end DL
/-! the data layer, part 63: != of two tuples (a truth, an object of the module with its own ==), all equal: False -/
namespace DL
open PySem PySem.Spec PyProof.Rows L2 GQ
/-! over data -/
def mNeTO (C : Addr) (sd : DSp) (ma mb : DTE) : DTE := fun Γ Q => ma Γ fun ra Γ1 => mb Γ1 fun rb Γ2 => ∃ t ns ds ns' ds', dat ra = some (.tup [.bl t, .obj C ns ds]) ∧ dat rb = some (.tup [.bl t, .obj C ns' ds']) ∧
  sd [.obj C ns ds, .obj C ns' ds'] (eqk id Γ2 fun r _ => r = .val (.bl true)) noX ∧ Q (.val (.bl false)) Γ2
section
variable {C : Addr} {Γ Γ1 : Env} {Q : QE} {ma mb : DTE}
def ntk (C : Addr) (sd : DSp) (ra rb : Res) (Γ : Env) (Q : QE) : Prop := ∃ t ns ds ns' ds', dat ra = some (.tup [.bl t, .obj C ns ds]) ∧ dat rb = some (.tup [.bl t, .obj C ns' ds']) ∧ sd [.obj C ns ds, .obj C ns' ds'] (eqk id Γ fun r _ => r = .val (.bl true)) noX ∧ Q (.val (.bl false)) Γ
theorem e_NeTO {sd : DSp} (h : ma Γ fun ra Γ1 => mb Γ1 fun rb Γ2 => ntk C sd ra rb Γ2 Q) : mNeTO C sd ma mb Γ Q := h
end
end DL
/-! the data layer, part 64: sorted(d.items()), d a shared dict of ints, any number of them -/
namespace DL
open PySem PySem.Spec PyProof.Rows L2 LiI
/-! over data -/
def mSortItems (me : DTE) : DTE := fun Γ Q => me Γ fun r Γ1 => ∃ ks : List (Int × Int), r = .val (.dkl (prK ks)) ∧ ks.length ≤ 100000 ∧
  ∀ ms : List (Int × Int), ms.Perm ks → ms.Pairwise (fun x y => ¬ (y.1 < x.1 ∨ (y.1 = x.1 ∧ y.2 < x.2))) → Q (.fr (.lst (ms.map fun p => D.tup [.int p.1, .int p.2]))) Γ1
section
variable {Γ : Env} {Q : QE} {me : DTE}
def sik (r : Res) (Γ : Env) (Q : QE) : Prop := ∃ ks : List (Int × Int), r = .val (.dkl (prK ks)) ∧ ks.length ≤ 100000 ∧ ∀ ms : List (Int × Int), ms.Perm ks → ms.Pairwise (fun x y => ¬ (y.1 < x.1 ∨ (y.1 = x.1 ∧ y.2 < x.2))) → Q (.fr (.lst (ms.map fun p => D.tup [.int p.1, .int p.2]))) Γ
theorem e_SortItems (h : me Γ fun r Γ1 => sik r Γ1 Q) : mSortItems me Γ Q := h
end
end DL
/-! the data layer, part 65: xs.count(k), a list of ints -/
namespace DL
open PySem PySem.Spec PyProof.Rows L2
def isLst : D → Bool
  | .lst _ => true
  | _ => false
def mCount (mo mk : DTE) : DTE := fun Γ Q => mo Γ fun ro Γ1 => (∃ c, rd Γ1 ro = some c ∧ isLst c = true) ∧ mk Γ1 fun rk Γ2 => ∃ (ns : List Int) (k : Int), rd Γ2 ro = some (.lst (ns.map D.int)) ∧ rd Γ2 rk = some (.int k) ∧ Q (.val (.int (ns.count k : Nat))) Γ2
section
variable {Γ : Env} {Q : QE} {mo mi : DTE}
def cnb (ro rk : Res) (Γ : Env) (Q : QE) : Prop := ∃ (ns : List Int) (k : Int), rd Γ ro = some (.lst (ns.map D.int)) ∧ rd Γ rk = some (.int k) ∧ Q (.val (.int (ns.count k : Nat))) Γ
def cna (ro : Res) (mi : DTE) (Γ : Env) (Q : QE) : Prop := (∃ c, rd Γ ro = some c ∧ isLst c = true) ∧ mi Γ fun rk Γ2 => cnb ro rk Γ2 Q
theorem e_Count (h : mo Γ fun ro Γ1 => cna ro mi Γ1 Q) : mCount mo mi Γ Q := h
theorem e_cna {ro : Res} {c : D} (h1 : rd Γ ro = some c) (h2 : isLst c = true) (h : mi Γ fun rk Γ2 => cnb ro rk Γ2 Q) : cna ro mi Γ Q := ⟨⟨c, h1, h2⟩, h⟩
theorem i_count {ro rk : Res} {ns : List Int} {k : Int} (h1 : rd Γ ro = some (.lst (ns.map D.int))) (h2 : rd Γ rk = some (.int k)) (h : Q (.val (.int (ns.count k : Nat))) Γ) : cnb ro rk Γ Q := ⟨ns, k, h1, h2, h⟩
end
end DL
namespace DL
open PySem PySem.Spec PyProof.Rows L2
/-! data that print well, dicts among them -/
mutual
def niceZ (k : Nat) : D → Bool
  | .int i => decide (i.natAbs < 2 ^ k)
  | .bl _ => true
  | .non => true
  | .lst ds => niceZs k ds
  | .tup ds => niceZs k ds
  | .str x => PyData.strOk x
  | .dic kvs => niceZk k kvs
  | .dkl kvs => niceZk k kvs
  | _ => false
def niceZs (k : Nat) : List D → Bool
  | [] => true
  | d :: ds => niceZ k d && niceZs k ds
def niceZk (k : Nat) : List (L2.Key × D) → Bool
  | [] => true
  | (.inl i, d) :: ds => decide (i.natAbs < 2 ^ k) && niceZ k d && niceZk k ds
  | (.inr x, d) :: ds => PyData.strOk x && niceZ k d && niceZk k ds
end
mutual
def wtZ (k : Nat) : D → Nat
  | .int _ => k + 1
  | .lst ds => 4 + wtZs k ds
  | .scr ds => 4 + wtZs k ds
  | .tup ds => 4 + wtZs k ds
  | .dic kvs => 4 + wtZk k kvs
  | .dkl kvs => 4 + wtZk k kvs
  | .str x => 10 * x.length + 5
  | _ => 5
def wtZs (k : Nat) : List D → Nat
  | [] => 0
  | d :: ds => wtZ k d + 2 + wtZs k ds
def wtZk (k : Nat) : List (L2.Key × D) → Nat
  | [] => 0
  | (.inl _, d) :: ds => k + 1 + 2 + wtZ k d + 2 + wtZk k ds
  | (.inr x, d) :: ds => 10 * x.length + 5 + 2 + wtZ k d + 2 + wtZk k ds
end
/-- prints well, not too deep, not too long -/
structure NiceZ (d : D) : Prop where
  nice : niceZ 256 d = true
  deep : (toPy d).depth ≤ 20
  wt : wtZ 256 d ≤ 900000
end DL
namespace DL
open PySem PySem.Spec PyProof.Rows L2
/-! a walk over a text -/
def chrs (x : Str) : List D := x.cps.toList.map fun c => D.str ⟨#[c]⟩
def mSeqT (ma : DTE) : DTI := fun Γ Q => ma Γ fun r Γ1 => ∃ x, rd Γ1 r = some (.str x) ∧ Q .no (chrs x) Γ1
def sqt (r : Res) (Γ : Env) (Q : Src → List D → Env → Prop) : Prop := ∃ x, rd Γ r = some (.str x) ∧ Q .no (chrs x) Γ
theorem w_SeqT {Γ : Env} {ma : DTE} {Q : Src → List D → Env → Prop} (h : ma Γ fun r Γ1 => sqt r Γ1 Q) : mSeqT ma Γ Q := h
theorem w_seqt {Γ : Env} {r : Res} {x : Str} {Q : Src → List D → Env → Prop} (h1 : rd Γ r = some (.str x)) (h : Q .no (chrs x) Γ) : sqt r Γ Q := ⟨x, h1, h⟩
/-! steps of texts -/
theorem i_lenS {x : Str} {Q : Res → Prop} (h1 : x.length ≤ 100000) (h : Q (.val (.int x.length))) : lenD [.str x] Q := ⟨h1, h⟩
theorem i_inSS {c : Nat} {x : Str} {Q : Res → Prop} (h : Q (.val (.bl (decide (c ∈ x.cps.toList))))) : inD (.str ⟨#[c]⟩) (.str x) Q := ⟨c, rfl, h⟩
end DL
namespace DL
open PySem PySem.Spec PyProof.Rows L2
/-! isinstance(x, (A, B)), built-in classes -/
def mIsiT (Ts : List String) (ma : DTE) : DTE := fun Γ Q => ma Γ fun r Γ1 => ∃ d, rd Γ1 r = some d ∧ (tyN d).isSome = true ∧ Q (.val (.bl (Ts.any fun T => isTy T d))) Γ1
section
variable {Γ Γ1 : Env} {ma : DTE} {Q : QE}
def isuk (Ts : List String) (r : Res) (Γ : Env) (Q : QE) : Prop := ∃ d, rd Γ r = some d ∧ (tyN d).isSome = true ∧ Q (.val (.bl (Ts.any fun T => isTy T d))) Γ
theorem e_IsiTu {Ts : List String} (h : ma Γ fun r Γ1 => isuk Ts r Γ1 Q) : mIsiT Ts ma Γ Q := h
theorem e_isiTuT {Ts : List String} {r : Res} {d : D} (h1 : rd Γ r = some d) (h2 : (tyN d).isSome = true) (h3 : (Ts.any fun T => isTy T d) = true) (h : Q (.val (.bl true)) Γ) : isuk Ts r Γ Q := ⟨d, h1, h2, by rw [h3]; exact h⟩
theorem e_isiTuF {Ts : List String} {r : Res} {d : D} (h1 : rd Γ r = some d) (h2 : (tyN d).isSome = true) (h3 : (Ts.any fun T => isTy T d) = false) (h : Q (.val (.bl false)) Γ) : isuk Ts r Γ Q := ⟨d, h1, h2, by rw [h3]; exact h⟩
end
theorem e_d1s {Γ : Env} {Q : QE} {rk rv : Res} {x : Str} {dv : D} (h1 : rd Γ rk = some (.str x)) (h2 : dat rv = some dv) (h : Q (.fr (.dic [(.inr x, dv)])) Γ) : d1k rk rv Γ Q := ⟨_, _, dv, h1, rfl, h2, h⟩
/-! a list compared with [] (whatever it holds) -/
def empD (F : Bool → Bool) : D → D → (Res → Prop) → Prop
  | .lst ds, .lst [], Q => Q (.val (.bl (F ds.isEmpty)))
  | .scr ds, .lst [], Q => Q (.val (.bl (F ds.isEmpty)))
  | _, _, _ => False
theorem i_eqEmp {ds : List D} {Q : Res → Prop} (h : Q (.val (.bl ds.isEmpty))) : empD id (.lst ds) (.lst []) Q := h
theorem i_neEmp {ds : List D} {Q : Res → Prop} (h : Q (.val (.bl (!ds.isEmpty)))) : empD (fun b => !b) (.lst ds) (.lst []) Q := h
/-! a tuple times a number -/
end DL
/-! the data layer, part 69: {tuple: v}; dicts whose keys are tuples of ints -/
namespace DL
open PySem PySem.Spec PyProof.Rows L2
def mDict1T (mk mv : DTE) : DTE := fun Γ Q => mk Γ fun rk Γ1 => mv Γ1 fun rv Γ2 => ∃ ds k dv, rd Γ2 rk = some (.tup ds) ∧ keysO ds = some k ∧ dat rv = some dv ∧ Q (.fr (.dit [(k, dv)])) Γ2
/-! ### dicts whose keys are tuples of ints -/
def prT (l : List (List Int × D)) : List (List L2.Key × D) := l.map fun p => (p.1.map Sum.inl, p.2)
theorem keysO_ints : ∀ l : List Int, keysO (l.map D.int) = some (l.map Sum.inl)
  | [] => rfl
  | x :: l => by rw [List.map_cons, keysO, keysO_ints l]; rfl
section
variable {Γ : Env} {Q : QE}
def d1kT (rk rv : Res) (Γ : Env) (Q : QE) : Prop := ∃ ds k dv, rd Γ rk = some (.tup ds) ∧ keysO ds = some k ∧ dat rv = some dv ∧ Q (.fr (.dit [(k, dv)])) Γ
theorem e_Dict1T {mk mv : DTE} (h : mk Γ fun rk Γ1 => mv Γ1 fun rv Γ2 => d1kT rk rv Γ2 Q) : mDict1T mk mv Γ Q := h
theorem e_d1T {rk rv : Res} {l : List Int} {dv : D} (h1 : rd Γ rk = some (.tup (l.map D.int))) (h2 : dat rv = some dv) (h : Q (.fr (.dit (prT [(l, dv)]))) Γ) : d1kT rk rv Γ Q := ⟨_, _, dv, h1, keysO_ints l, h2, h⟩
end
end DL
namespace DL
open PySem PySem.Spec PyProof.Rows L2
/-! own == and != with a thing of any built-in kind -/
/-- x == y by the own == of x's class, y of any built-in kind -/
def mEqX (C : Addr) (sd : DSp) (F : Bool → Bool) (ma mb : DTE) : DTE := fun Γ Q => ma Γ fun ra Γ1 => mb Γ1 fun rb Γ2 => ∃ ns ds d, dat ra = some (.obj C ns ds) ∧ dat rb = some d ∧ (tyN d).isSome = true ∧ sd [.obj C ns ds, d] (eqk F Γ2 Q) noX
section
variable {X : Cx} {C : Ctx} {C0 : Addr} {k : Nat} {g : Addr} {fd : FuncData} {ps : List Str} {sd : DSp} {ta tb : TE} {ma mb : DTE} {a b : Expr} {pos : Pos} {E : XK}
variable {Γ : Env} {Q : QE} {r r2 : Res} {ns : List Str} {ds : List D}
def eoxk (C : Addr) (sd : DSp) (F : Bool → Bool) (ra rb : Res) (Γ2 : Env) (Q : QE) : Prop := ∃ ns ds d, dat ra = some (.obj C ns ds) ∧ dat rb = some d ∧ (tyN d).isSome = true ∧ sd [.obj C ns ds, d] (eqk F Γ2 Q) noX
theorem e_EqX {F : Bool → Bool} (h : ma Γ fun ra Γ1 => mb Γ1 fun rb Γ2 => eoxk C0 sd F ra rb Γ2 Q) : mEqX C0 sd F ma mb Γ Q := h
theorem e_eqX {F : Bool → Bool} {d : D} (h1 : dat r = some (.obj C0 ns ds)) (h2 : dat r2 = some d) (h3 : (tyN d).isSome = true) (h : sd [.obj C0 ns ds, d] (eqk F Γ Q) noX) : eoxk C0 sd F r r2 Γ Q := ⟨_, _, _, h1, h2, h3, h⟩
end
end DL
namespace DL
open PySem PySem.Spec PyProof.Rows L2
/-! x in a list of trees -/
end DL
namespace DL
open PySem PySem.Spec PyProof.Rows L2
/-! xs.index(x) of a list -/
/-- j is the first place of an equal one -/
def IdxAt (ds : List D) (x : D) (j : Nat) : Prop := (∃ z, ds[j]? = some z ∧ eqv z x = true) ∧ ∀ (m : Nat) (z : D), m < j → ds[m]? = some z → eqv z x = false
def mIndex (mo mk : DTE) : DTE := fun Γ Q => mo Γ fun ro Γ1 => (∃ c, rd Γ1 ro = some c ∧ isLst c = true) ∧ mk Γ1 fun rk Γ2 => ∃ (ds : List D) (x : D) (j : Nat), rd Γ2 ro = some (.lst ds) ∧ rd Γ2 rk = some x ∧ okE (.lst ds) = true ∧ okE x = true ∧ IdxAt ds x j ∧ Q (.val (.int (j : Nat))) Γ2
section
variable {Γ : Env} {Q : QE} {mo mi : DTE}
def idb (ro rk : Res) (Γ : Env) (Q : QE) : Prop := ∃ (ds : List D) (x : D) (j : Nat), rd Γ ro = some (.lst ds) ∧ rd Γ rk = some x ∧ okE (.lst ds) = true ∧ okE x = true ∧ IdxAt ds x j ∧ Q (.val (.int (j : Nat))) Γ
def ida (ro : Res) (mi : DTE) (Γ : Env) (Q : QE) : Prop := (∃ c, rd Γ ro = some c ∧ isLst c = true) ∧ mi Γ fun rk Γ2 => idb ro rk Γ2 Q
theorem e_Index (h : mo Γ fun ro Γ1 => ida ro mi Γ1 Q) : mIndex mo mi Γ Q := h
theorem e_ida {ro : Res} {c : D} (h1 : rd Γ ro = some c) (h2 : isLst c = true) (h : mi Γ fun rk Γ2 => idb ro rk Γ2 Q) : ida ro mi Γ Q := ⟨⟨c, h1, h2⟩, h⟩
end
end DL
/-! x[:] = a list, x a place -/
namespace L2
open PySem PySem.Spec PyProof.Rows
end L2
namespace DL
open PySem PySem.Spec PyProof.Rows L2
section
variable {X : Cx} {C : Ctx} {pos p2 : Pos} {o : Expr} {to : TE} {mo : DTE}
def mgAll (mo : DTE) : DTG := fun d Γ Q => mo Γ fun ro Γ1 => ∃ i xs ys, ro = .pl i ∧ cont Γ1[i]? = some (.lst xs) ∧ d = .lst ys ∧ xs.length + ys.length ≤ 100000 ∧ ∃ Γ4, setC Γ1 i (.lst ys) = some Γ4 ∧ Q Γ4
end
def alck (d : D) (ro : Res) (Γ : Env) (Q : Env → Prop) : Prop := ∃ i xs ys, ro = .pl i ∧ cont Γ[i]? = some (.lst xs) ∧ d = .lst ys ∧ xs.length + ys.length ≤ 100000 ∧ ∃ Γ4, setC Γ i (.lst ys) = some Γ4 ∧ Q Γ4
theorem g_All {mo : DTE} {d : D} {Γ : Env} {Q : Env → Prop} (h : mo Γ fun ro Γ1 => alck d ro Γ1 Q) : mgAll mo d Γ Q := h
theorem g_all {xs ys : List D} {i : Nat} {Γ Γ4 Γ5 : Env} {Q : Env → Prop} (h1 : cont Γ[i]? = some (.lst xs)) (hz : xs.length + ys.length ≤ 100000) (hs : setC Γ i (.lst ys) = some Γ4) (h4 : Γ4 = Γ5) (h : Q Γ5) : alck (.lst ys) (.pl i) Γ Q := ⟨i, xs, ys, rfl, h1, rfl, hz, Γ4, hs, by rw [h4]; exact h⟩
end DL
/-! isinstance(e, (A, B)) of a caught exception -/
namespace DL
open PySem PySem.Spec PyProof.Rows L2
def lkAny (n : Str) : List (List (Str × Bool)) → Option Bool
  | [] => some false
  | t :: ts => match t.lookup n, lkAny n ts with
    | some b, some c => some (b || c)
    | _, _ => none
def mXisT (n : Str) (a : Addr) (tabs : List (List (Str × Bool))) (mo : DTE) : DTE := fun Γ Q => mo Γ fun r Γ1 => r = .val (.cls a) ∧ ∃ b, lkAny n tabs = some b ∧ Q (.val (.bl b)) Γ1
section
variable {X : Cx} {C : Ctx} {cls : Value} {d : Option Addr} {n : Str} {fvs : List (Str × V)} {fds : List (Str × D)} {a : Addr} {oe : Obj} {pn : List (Addr × Obj)} {to : TE} {mo : DTE} {o : Expr} {p pos tpos : Pos} {es : List Expr} {n1 : Nat}
variable {Γ : Env} {Q : QE} {tabs : List (List (Str × Bool))} {b : Bool}
def xikT (n : Str) (a : Addr) (tabs : List (List (Str × Bool))) (r : Res) (Γ1 : Env) (Q : QE) : Prop := r = .val (.cls a) ∧ ∃ b, lkAny n tabs = some b ∧ Q (.val (.bl b)) Γ1
theorem e_XisT (h : mo Γ fun r Γ1 => xikT n a tabs r Γ1 Q) : mXisT n a tabs mo Γ Q := h
theorem e_xisT (h1 : lkAny n tabs = some b) (h : Q (.val (.bl b)) Γ) : xikT n a tabs (.val (.cls a)) Γ Q := ⟨rfl, _, h1, h⟩
theorem e_xisTT (h1 : lkAny n tabs = some true) (h : Q (.val (.bl true)) Γ) : xikT n a tabs (.val (.cls a)) Γ Q := e_xisT h1 h
theorem e_xisTF (h1 : lkAny n tabs = some false) (h : Q (.val (.bl false)) Γ) : xikT n a tabs (.val (.cls a)) Γ Q := e_xisT h1 h
end
theorem e_eqkI {Γ : Env} {Q : QE} {z : Bool} (h : Q (.val (.bl z)) Γ) : eqk id Γ Q false (.bl z) [] := eqk_in h
theorem e_eqkF {Γ : Env} {Q : QE} (h : Q (.val (.bl true)) Γ) : eqk (fun b => !b) Γ Q false (.bl false) [] := eqk_in h
theorem e_eqkT {Γ : Env} {Q : QE} (h : Q (.val (.bl false)) Γ) : eqk (fun b => !b) Γ Q false (.bl true) [] := eqk_in h
end DL
namespace DL
open PySem PySem.Spec PyProof.Rows L2
/-! range(i, j, c) -/
def rngC (lo c : Int) (n : Nat) : List D := (List.range n).map fun i => D.int (lo + (i : Nat) * c)
theorem rngC_get {lo c : Int} {n i : Nat} (h : i < n) : (rngC lo c n)[i]? = some (.int (lo + i * c)) := by
  unfold rngC
  rw [List.getElem?_map, List.getElem?_range h]; rfl
theorem itd_rngC {K : Fg} {lo c : Int} {n : Nat} : ItD K (Itc lo c n) n (fun _ _ => True) (rngC lo c n) where
  len := by unfold rngC; rw [List.length_map, List.length_range]
  go := fun i O H _ hi => hi
  stop := fun O H _ => Nat.le_refl _
  yld := fun i O H x H' _ hi y => by
    obtain ⟨rfl, e⟩ := y
    exact ⟨_, rngC_get hi, .inl ⟨rfl, by rw [e]; exact .int _⟩⟩
def mRng3 (ma : DTA) : DTI := fun Γ Q => ma Γ fun rs Γ1 => ∃ (i j c : Int) (n : Nat), rs = [.val (.int i), .val (.int j), .val (.int c)] ∧ RgC i j c n ∧ Q .no (rngC i c n) Γ1
section
variable {X : Cx} {C : Ctx} {tg : Expr} {p pos : Pos}
theorem di_rng3 {a b c : Expr} {ta : TA} {ma : DTA} (hg : Gl X "range") (hm : X.mg "range" = none) (ha : DA X C [a, b, c] ta ma) (hs : starEach [a, b, c] X.env = (false, eval a X.env) :: starEach [b, c] X.env := by rfl) (hpl : (backTo pos (starEach [b, c] X.env)).any (·.1) = false := by rfl) : DI X C tg (.Call (.Name "range" p) [a, b, c] [] pos) (iRng3 ta) (mRng3 ma) :=
  ⟨pi_range3 hg hm ha.pa hs hpl, fun Γ O σ H Qd R hR hm k => ha.sim Γ O σ H _ _ hR hm fun rs Γ1 vs H1 R1 p1 e1 q1 => by
    obtain ⟨i, j, c, n, rfl, hb, q⟩ := q1
    cases p1 with
    | cons a t =>
      cases t with
      | cons b t =>
        cases t with
        | cons d t =>
          cases t
          exact ⟨i, j, c, n, by rw [pend_int a, pend_int b, pend_int d], hb, k .no _ Γ1 _ H1 _ _ R1 e1 itd_rngC (fun _ _ => trivial) q⟩⟩
end
section
variable {Γ : Env} {ma : DTA}
def rg3k (rs : List Res) (Γ1 : Env) (Q : Src → List D → Env → Prop) : Prop := ∃ (i j c : Int) (n : Nat), rs = [.val (.int i), .val (.int j), .val (.int c)] ∧ RgC i j c n ∧ Q .no (rngC i c n) Γ1
theorem w_Rng3 {Q : Src → List D → Env → Prop} (h : ma Γ fun rs Γ1 => rg3k rs Γ1 Q) : mRng3 ma Γ Q := h
theorem w_down {Q : Src → List D → Env → Prop} {i j : Int} (h1 : -(2 ^ 62) ≤ i ∧ i < 2 ^ 62 ∧ -(2 ^ 62) ≤ j ∧ j < 2 ^ 62) (h : Q .no (rngC i (-1) (i - j).toNat) Γ) : rg3k [.val (.int i), .val (.int j), .val (.int (-1))] Γ Q := ⟨i, j, -1, _, rfl, RgC.neg h1.1 h1.2.1 h1.2.2.1 h1.2.2.2, h⟩
end
theorem rngC_down (r : Nat) : rngC ((r : Nat) : Int) (-1) (r + 1) = .int (r : Nat) :: rngC ((r : Int) - 1) (-1) r := by
  unfold rngC
  rw [List.range_succ_eq_map, List.map_cons, List.map_map]
  refine congr (congrArg List.cons ?_) ?_
  · show D.int _ = D.int _
    simp
  · refine List.map_congr_left fun a _ => ?_
    show D.int (((r : Nat) : Int) + ((a + 1 : Nat) : Int) * -1) = D.int ((r : Int) - 1 + (a : Int) * -1)
    congr 1
    omega
/-- over range(k - 1, -1, -1): what holds while r items are left -/
theorem loop_down {src : Src} {mg : DTG} {mb : DTS} {K : DEnds} (I : Nat → Env → Prop) (hs : ∀ r Γ, I r Γ → srcL Γ src) (hn : ∀ Γ, I 0 Γ → K.nx Γ)
    (hc : ∀ (r : Nat) Γ (N : Env → Prop), I (r + 1) Γ → (∀ Γ', I r Γ' → N Γ') → mg (.int (r : Nat)) Γ fun Γ2 => mb { K with nx := N, ct := N, bk := K.nx } Γ2) : ∀ (r : Nat) (Γ : Env), I r Γ → loopM src mg mb K (rngC ((r : Int) - 1) (-1) r) Γ
  | 0, Γ, h => ⟨hs _ _ h, hn _ h⟩
  | r + 1, Γ, h => by
    rw [show ((r + 1 : Nat) : Int) - 1 = (r : Nat) by omega, rngC_down]
    exact ⟨hs _ _ h, hc r Γ _ h fun Γ' h' => loop_down I hs hn hc r Γ' h'⟩
end DL
namespace LW
open PySem PySem.Spec PyProof.Rows L2 DL
/-! printed by wip/gen.py: the defs of the text, what their bodies read as, and that they keep it -/
def topS (i : Nat) : Stmt := PySem.Challenge.pw_ringcalls_k65_whole_no_loss_beats_a_thre.main.body.getD i (.Pass ⟨0, 0, 0, 0⟩)
abbrev s_is_integer : Stmt := topS 3
theorem sc_is_integer : FnScope ["thing"] ["thing"] (defScope s_is_integer) := ⟨rfl, rfl, rfl, by decide +kernel, rfl, by decide +kernel, by decide +kernel⟩
abbrev s_is_between : Stmt := topS 4
theorem sc_is_between : FnScope ["thing", "least", "most"] ["thing", "least", "most"] (defScope s_is_between) := ⟨rfl, rfl, rfl, by decide +kernel, rfl, by decide +kernel, by decide +kernel⟩
abbrev s_is_size : Stmt := topS 5
theorem sc_is_size : FnScope ["thing"] ["thing"] (defScope s_is_size) := ⟨rfl, rfl, rfl, by decide +kernel, rfl, by decide +kernel, by decide +kernel⟩
abbrev s_is_thread : Stmt := topS 7
theorem sc_is_thread : FnScope ["size", "schedule", "thing", "at", "gap", "step", "one"] ["size", "schedule", "thing"] (defScope s_is_thread) := ⟨rfl, rfl, rfl, by decide +kernel, rfl, by decide +kernel, by decide +kernel⟩
abbrev s_cost : Stmt := topS 8
theorem sc_cost : FnScope ["thread", "at"] ["thread"] (defScope s_cost) := ⟨rfl, rfl, rfl, by decide +kernel, rfl, by decide +kernel, by decide +kernel⟩
abbrev s_stepped_back : Stmt := topS 9
theorem sc_stepped_back : FnScope ["size", "prices", "gap", "earlier", "place", "price"] ["size", "prices", "gap"] (defScope s_stepped_back) := ⟨rfl, rfl, rfl, by decide +kernel, rfl, by decide +kernel, by decide +kernel⟩
abbrev s_layers : Stmt := topS 10
theorem sc_layers : FnScope ["size", "schedule", "end", "found", "gap"] ["size", "schedule", "end"] (defScope s_layers) := ⟨rfl, rfl, rfl, by decide +kernel, rfl, by decide +kernel, by decide +kernel⟩
abbrev s_costs : Stmt := topS 11
theorem sc_costs : FnScope ["size", "schedule", "end", "begin", "price"] ["size", "schedule", "end"] (defScope s_costs) := ⟨rfl, rfl, rfl, by decide +kernel, rfl, by decide +kernel, by decide +kernel⟩
abbrev s_followed : Stmt := topS 12
theorem sc_followed : FnScope ["size", "gap", "here", "later", "choices"] ["size", "gap", "here", "later"] (defScope s_followed) := ⟨rfl, rfl, rfl, by decide +kernel, rfl, by decide +kernel, by decide +kernel⟩
abbrev s_cheapest : Stmt := topS 13
theorem sc_cheapest : FnScope ["size", "schedule", "begin", "end", "prices", "thread", "at", "gap"] ["size", "schedule", "begin", "end"] (defScope s_cheapest) := ⟨rfl, rfl, rfl, by decide +kernel, rfl, by decide +kernel, by decide +kernel⟩
abbrev s_Ring___init__ : Stmt := inClass (topS 18) 0
theorem sc_Ring___init__ : FnScope ["self", "ranks", "rank"] ["self", "ranks"] (defScope s_Ring___init__) := ⟨rfl, rfl, rfl, by decide +kernel, rfl, by decide +kernel, by decide +kernel⟩
abbrev s_Ring_size : Stmt := inClass (topS 18) 2
theorem sc_Ring_size : FnScope ["self"] ["self"] (defScope s_Ring_size) := ⟨rfl, rfl, rfl, by decide +kernel, rfl, by decide +kernel, by decide +kernel⟩
abbrev s_Ring_rank : Stmt := inClass (topS 18) 4
theorem sc_Ring_rank : FnScope ["self", "place"] ["self", "place"] (defScope s_Ring_rank) := ⟨rfl, rfl, rfl, by decide +kernel, rfl, by decide +kernel, by decide +kernel⟩
abbrev s_end_of : Stmt := topS 20
theorem sc_end_of : FnScope ["outcome", "place", "laps", "person"] ["outcome", "place"] (defScope s_end_of) := ⟨rfl, rfl, rfl, by decide +kernel, rfl, by decide +kernel, by decide +kernel⟩
abbrev s_back : Stmt := topS 21
theorem sc_back : FnScope ["outcome", "size", "begins", "person", "end"] ["outcome"] (defScope s_back) := ⟨rfl, rfl, rfl, by decide +kernel, rfl, by decide +kernel, by decide +kernel⟩
abbrev s_carried : Stmt := topS 22
theorem sc_carried : FnScope ["outcome", "begin", "end", "size", "total", "person", "place"] ["outcome", "begin", "end"] (defScope s_carried) := ⟨rfl, rfl, rfl, by decide +kernel, rfl, by decide +kernel, by decide +kernel⟩
abbrev s_barred_pass : Stmt := topS 24
theorem sc_barred_pass : FnScope ["ring", "outcome", "one", "other"] ["ring", "outcome"] (defScope s_barred_pass) := ⟨rfl, rfl, rfl, by decide +kernel, rfl, by decide +kernel, by decide +kernel⟩
abbrev s_calls_taken_back : Stmt := topS 25
theorem sc_calls_taken_back : FnScope ["size", "schedule", "outcome", "begins", "found", "at", "shift", "gap", "following", "first", "second"] ["size", "schedule", "outcome"] (defScope s_calls_taken_back) := ⟨rfl, rfl, rfl, by decide +kernel, rfl, by decide +kernel, by decide +kernel⟩
abbrev s_cheap_thread : Stmt := topS 26
theorem sc_cheap_thread : FnScope ["size", "schedule", "outcome", "end", "begin", "price"] ["size", "schedule", "outcome"] (defScope s_cheap_thread) := ⟨rfl, rfl, rfl, by decide +kernel, rfl, by decide +kernel, by decide +kernel⟩
abbrev s_decide : Stmt := topS 27
theorem sc_decide : FnScope ["ring", "schedule", "outcome", "barred", "indexes"] ["ring", "schedule", "outcome"] (defScope s_decide) := ⟨rfl, rfl, rfl, by decide +kernel, rfl, by decide +kernel, by decide +kernel⟩
abbrev s_is_barred : Stmt := topS 28
theorem sc_is_barred : FnScope ["ring", "outcome", "one", "other"] ["ring", "outcome", "one", "other"] (defScope s_is_barred) := ⟨rfl, rfl, rfl, by decide +kernel, rfl, by decide +kernel, by decide +kernel⟩
abbrev s_is_reason : Stmt := topS 29
theorem sc_is_reason : FnScope ["ring", "schedule", "outcome", "thing"] ["ring", "schedule", "outcome", "thing"] (defScope s_is_reason) := ⟨rfl, rfl, rfl, by decide +kernel, rfl, by decide +kernel, by decide +kernel⟩
abbrev s_law_bag : Stmt := topS 31
theorem sc_law_bag : FnScope ["_law_script", "_law_cell"] ["_law_script"] (defScope s_law_bag) := ⟨rfl, rfl, rfl, by decide +kernel, rfl, by decide +kernel, by decide +kernel⟩
abbrev s_law_take : Stmt := topS 32
theorem sc_law_take : FnScope ["_law_bag_here", "_law_many", "_law_first", "_law_second", "_law_cell", "_law_value"] ["_law_bag_here", "_law_many"] (defScope s_law_take) := ⟨rfl, rfl, rfl, by decide +kernel, rfl, by decide +kernel, by decide +kernel⟩
abbrev s_law_some_size : Stmt := topS 33
theorem sc_law_some_size : FnScope ["_law_bag_here", "_law_most"] ["_law_bag_here", "_law_most"] (defScope s_law_some_size) := ⟨rfl, rfl, rfl, by decide +kernel, rfl, by decide +kernel, by decide +kernel⟩
abbrev s_law_ranks : Stmt := topS 34
theorem sc_law_ranks : FnScope ["_law_bag_here", "_law_size", "_law_place", "_law_way", "_law_found", "_law_spot", "_law_few", "_law_great", "_law_rank"] ["_law_bag_here", "_law_size"] (defScope s_law_ranks) := ⟨rfl, rfl, rfl, by decide +kernel, rfl, by decide +kernel, by decide +kernel⟩
abbrev s_law_schedule : Stmt := topS 35
theorem sc_law_schedule : FnScope ["_law_bag_here", "_law_size", "_law_most", "_law_few", "_law_found", "_law_k", "_law_many", "_law_way", "_law_begin", "_law_gap"] ["_law_bag_here", "_law_size", "_law_most"] (defScope s_law_schedule) := ⟨rfl, rfl, rfl, by decide +kernel, rfl, by decide +kernel, by decide +kernel⟩
abbrev s_law_standing : Stmt := topS 36
theorem sc_law_standing : FnScope ["_law_size"] ["_law_size"] (defScope s_law_standing) := ⟨rfl, rfl, rfl, by decide +kernel, rfl, by decide +kernel, by decide +kernel⟩
abbrev s_law_called : Stmt := topS 37
theorem sc_law_called : FnScope ["_law_ranks_here", "_law_there", "_law_gap", "_law_size", "_law_first", "_law_second"] ["_law_ranks_here", "_law_there", "_law_gap"] (defScope s_law_called) := ⟨rfl, rfl, rfl, by decide +kernel, rfl, by decide +kernel, by decide +kernel⟩
abbrev s_law_run : Stmt := topS 38
theorem sc_law_run : FnScope ["_law_ranks_here", "_law_schedule_here", "_law_there", "_law_found", "_law_at", "_law_gap"] ["_law_ranks_here", "_law_schedule_here"] (defScope s_law_run) := ⟨rfl, rfl, rfl, by decide +kernel, rfl, by decide +kernel, by decide +kernel⟩
abbrev s_law_ended : Stmt := topS 39
theorem sc_law_ended : FnScope ["_law_there", "_law_size", "_law_found", "_law_place", "_law_person"] ["_law_there"] (defScope s_law_ended) := ⟨rfl, rfl, rfl, by decide +kernel, rfl, by decide +kernel, by decide +kernel⟩
abbrev s_law_carried : Stmt := topS 40
theorem sc_law_carried : FnScope ["_law_outcome", "_law_begin", "_law_end", "_law_person", "_law_size", "_law_total", "_law_ahead"] ["_law_outcome", "_law_begin", "_law_end"] (defScope s_law_carried) := ⟨rfl, rfl, rfl, by decide +kernel, rfl, by decide +kernel, by decide +kernel⟩
abbrev s_law_mixed : Stmt := topS 41
theorem sc_law_mixed : FnScope ["_law_bag_here", "_law_things", "_law_found", "_law_thing"] ["_law_bag_here", "_law_things"] (defScope s_law_mixed) := ⟨rfl, rfl, rfl, by decide +kernel, rfl, by decide +kernel, by decide +kernel⟩
abbrev s_law_any_outcome : Stmt := topS 42
theorem sc_law_any_outcome : FnScope ["_law_bag_here", "_law_size", "_law_laps", "_law_found", "_law_turn", "_law_one", "_law_other", "_law_many"] ["_law_bag_here", "_law_size", "_law_laps"] (defScope s_law_any_outcome) := ⟨rfl, rfl, rfl, by decide +kernel, rfl, by decide +kernel, by decide +kernel⟩
abbrev s_law_run_of : Stmt := topS 43
theorem sc_law_run_of : FnScope ["_law_there", "_law_schedule_here", "_law_size", "_law_found", "_law_at", "_law_gap", "_law_shift", "_law_first", "_law_second"] ["_law_there", "_law_schedule_here"] (defScope s_law_run_of) := ⟨rfl, rfl, rfl, by decide +kernel, rfl, by decide +kernel, by decide +kernel⟩
abbrev s_law_endless : Stmt := topS 44
theorem sc_law_endless : FnScope ["_law_size", "_law_schedule_here"] ["_law_size", "_law_schedule_here"] (defScope s_law_endless) := ⟨rfl, rfl, rfl, by decide +kernel, rfl, by decide +kernel, by decide +kernel⟩
abbrev s_law_drawn_thread : Stmt := topS 45
theorem sc_law_drawn_thread : FnScope ["_law_bag_here", "_law_size", "_law_schedule_here", "_law_found", "_law_gap", "_law_step"] ["_law_bag_here", "_law_size", "_law_schedule_here"] (defScope s_law_drawn_thread) := ⟨rfl, rfl, rfl, by decide +kernel, rfl, by decide +kernel, by decide +kernel⟩
abbrev s_law_counted : Stmt := topS 46
theorem sc_law_counted : FnScope ["_law_thread", "_law_at"] ["_law_thread"] (defScope s_law_counted) := ⟨rfl, rfl, rfl, by decide +kernel, rfl, by decide +kernel, by decide +kernel⟩
abbrev s_law : Stmt := topS 47
theorem sc_law : FnScope ["_law_script", "_law_bag_here", "_law_go", "_law_size", "_law_end", "_law_prices", "_law_threads", "_law_thread", "_law_k", "_law_odd", "_law_ranks_here", "_law_schedule_here", "_law_begin", "_law_price", "_law_there", "_law_indexes", "_law_some", "_law_outcome", "_law_gap"] ["_law_script"] (defScope s_law) := ⟨rfl, rfl, rfl, by decide +kernel, rfl, by decide +kernel, by decide +kernel⟩
section
variable {P : Program} {w : World} {K : PySem.W.Frag} {mg : Str → Option Value} {base : Heap}
/-- is_integer(thing) -/
def m_is_integer  : DTS :=
    (mRet (mAndV (mIsi "int" (mVar 0)) (mNotV (mIsi "bool" (mVar 0)))))
set_option maxHeartbeats 4000000 in
theorem walk_is_integer {f : Addr} {fd : FuncData} (F : Fun K "is_integer" "is_integer" s_is_integer f fd) (z_isinstance : mg "isinstance" = none) (z_bool : mg "bool" = none) (z_int : mg "int" = none)
    {sd : DSp} (hv : ∀ ds Qd Ed, ds.length = 1 → sd ds Qd Ed → m_is_integer (endsD [.S] Qd) (startD ["thing"] [.S] ds)) :
    FnG P w K mg base 1 f fd ["thing"] (spD K [.S] sd) := by
  refine fn_dm (N := ["thing"]) F sc_is_integer rfl hv fun cdv A outer s H0 vs E O H hg hr => ?_
  have sc := sc_is_integer
  unfold m_is_integer
  exact ⟨_, (ds_one (ds_ret (de_and (de_isi (T := "int") (by simp) (by rfl) z_isinstance (de_var 0 (pv 0)) (pe_bltn (by rfl) z_int (by decide +kernel) rfl)) (de_one (de_not (de_isi (T := "bool") (by simp) (by rfl) z_isinstance (de_var 0 (pv 0)) (pe_bltn (by rfl) z_bool (by decide +kernel) rfl)))))))⟩
/-- is_between(thing, least, most) -/
def m_is_between (sd_is_integer : DSp) : DTS :=
    (mRet (mAndV (mCall [.S] sd_is_integer (mCons (mVar 0) mNil)) (mChain (fun i j => decide (i ≤ j)) (fun i j => decide (i ≤ j)) (mVar 1) (mVar 0) (mVar 2))))
set_option maxHeartbeats 4000000 in
theorem walk_is_between {f : Addr} {fd : FuncData} (F : Fun K "is_between" "is_between" s_is_between f fd) {sd_is_integer : DSp}
    {f_is_integer : Addr} {fd_is_integer : FuncData} (F_is_integer : FnG P w K mg base 1 f_is_integer fd_is_integer ["thing"] (spD K [.S] sd_is_integer)) (g_is_integer : mg "is_integer" = some (.ref f_is_integer)) (k_is_integer : PySem.W.keepIn K (.ref f_is_integer) = true) (b_is_integer : Binds K fd_is_integer ["thing"] [])
    {sd : DSp} (hv : ∀ ds Qd Ed, ds.length = 3 → sd ds Qd Ed → m_is_between sd_is_integer (endsD [.S, .S, .S] Qd) (startD ["thing", "least", "most"] [.S, .S, .S] ds)) :
    FnG P w K mg base 2 f fd ["thing", "least", "most"] (spD K [.S, .S, .S] sd) := by
  refine fn_dm (N := ["thing", "least", "most"]) F sc_is_between rfl hv fun cdv A outer s H0 vs E O H hg hr => ?_
  have sc := sc_is_between
  unfold m_is_between
  exact ⟨_, (ds_one (ds_ret (de_and (de_call F_is_integer hg (hr.mono (by decide)) (by rfl) g_is_integer k_is_integer b_is_integer (da_cons (de_var 0 (pv 0)) da_nil)) (de_one (de_chain2 (pe_chain op_le op_le) (de_var 1 (pv 1)) (de_var 0 (pv 0)) (de_var 2 (pv 2)))))))⟩
/-- is_size(thing) -/
def m_is_size (sd_is_between : DSp) : DTS :=
    (mRet (mCall [.S, .S, .S] sd_is_between (mCons (mVar 0) (mCons (mC (.int 2)) (mCons (mC (.int 12)) mNil)))))
set_option maxHeartbeats 4000000 in
theorem walk_is_size {f : Addr} {fd : FuncData} (F : Fun K "is_size" "is_size" s_is_size f fd) {sd_is_between : DSp}
    {f_is_between : Addr} {fd_is_between : FuncData} (F_is_between : FnG P w K mg base 2 f_is_between fd_is_between ["thing", "least", "most"] (spD K [.S, .S, .S] sd_is_between)) (g_is_between : mg "is_between" = some (.ref f_is_between)) (k_is_between : PySem.W.keepIn K (.ref f_is_between) = true) (b_is_between : Binds K fd_is_between ["thing", "least", "most"] []) {t_MOST_PLACES : Tok} (g_MOST_PLACES : mg "MOST_PLACES" = some (.int 12 t_MOST_PLACES))
    {sd : DSp} (hv : ∀ ds Qd Ed, ds.length = 1 → sd ds Qd Ed → m_is_size sd_is_between (endsD [.S] Qd) (startD ["thing"] [.S] ds)) :
    FnG P w K mg base 3 f fd ["thing"] (spD K [.S] sd) := by
  refine fn_dm (N := ["thing"]) F sc_is_size rfl hv fun cdv A outer s H0 vs E O H hg hr => ?_
  have sc := sc_is_size
  unfold m_is_size
  exact ⟨_, (ds_one (ds_ret (de_call F_is_between hg (hr.mono (by decide)) (by rfl) g_is_between k_is_between b_is_between (da_cons (de_var 0 (pv 0)) (da_cons de_int (da_cons (de_globI (pe_glob (by rfl) g_MOST_PLACES ⟨_, rfl⟩)) da_nil))))))⟩
/-- is_thread(size, schedule, thing) -/
def m_is_thread (sd_is_integer : DSp) : DTS :=
    (mSeqS (mIfS (mOr (mNot (mTest (mIsi "list" (mVar 2)))) (mOr (mTest (mOp neD (mCB lenD (mCons (mVar 2) mNil)) (mOp addD (mCB lenD (mCons (mVar 1) mNil)) (mC (.int 1))))) (mNot (mTest (mCB allD (mCons (mComp (mSeq (mVar 2)) (mgName 6) mYes (mCall [.S] sd_is_integer (mCons (mVar 6) mNil)) [6]) mNil)))))) (mRet (mC (.bl false))) mNext)
    (mSeqS (mFor (mEnum (mVar 1)) (mgTup 2 (mgCons (mgName 3) (mgCons (mgName 4) mgNil))) (mSeqS (mSet 5 (mCB absD (mCons (mOp subD (mOp ixD (mVar 2) (mVar 3)) (mOp ixD (mVar 2) (mOp addD (mVar 3) (mC (.int 1))))) mNil)))
    (mIfS (mTest (mOp neD (mVar 5) (mCB intD (mCons (mOp eqD (mOp modD (mOp subD (mOp ixD (mVar 2) (mOp addD (mVar 3) (mC (.int 1)))) (mVar 4)) (mVar 0)) (mC (.int 0))) mNil)))) (mRet (mC (.bl false))) mNext)))
    (mRet (mC (.bl true)))))
set_option maxHeartbeats 4000000 in
theorem walk_is_thread {f : Addr} {fd : FuncData} (F : Fun K "is_thread" "is_thread" s_is_thread f fd) {sd_is_integer : DSp}
    {f_is_integer : Addr} {fd_is_integer : FuncData} (F_is_integer : FnG P w K mg base 1 f_is_integer fd_is_integer ["thing"] (spD K [.S] sd_is_integer)) (g_is_integer : mg "is_integer" = some (.ref f_is_integer)) (k_is_integer : PySem.W.keepIn K (.ref f_is_integer) = true) (b_is_integer : Binds K fd_is_integer ["thing"] []) (z_enumerate : mg "enumerate" = none) (z_int : mg "int" = none) (z_abs : mg "abs" = none) (z_all : mg "all" = none) (z_len : mg "len" = none) (z_isinstance : mg "isinstance" = none) (z_list : mg "list" = none)
    {sd : DSp} (hv : ∀ ds Qd Ed, ds.length = 3 → sd ds Qd Ed → m_is_thread sd_is_integer (endsD [.S, .S, .S] Qd) (startD ["size", "schedule", "thing", "at", "gap", "step", "one"] [.S, .S, .S] ds)) :
    FnG P w K mg base 2 f fd ["size", "schedule", "thing"] (spD K [.S, .S, .S] sd) := by
  refine fn_dm (N := ["size", "schedule", "thing", "at", "gap", "step", "one"]) F sc_is_thread rfl hv fun cdv A outer s H0 vs E O H hg hr => ?_
  have sc := sc_is_thread
  unfold m_is_thread
  exact ⟨_, (ds_cons (ds_if (dw_pt (dw_or (dt_not (dt_val (de_isi (T := "list") (by simp) (by rfl) z_isinstance (de_var 2 (pv 2)) (pe_bltn (by rfl) z_list (by decide +kernel) rfl)))) (dw_or (dt_ne hr.units (de_len (by rfl) z_len (da_cons (de_var 2 (pv 2)) da_nil)) (de_add (de_len (by rfl) z_len (da_cons (de_var 1 (pv 1)) da_nil)) de_int)) (dw_or1 (dt_not (dt_val (de_all rfl (by rfl) z_all (da_cons (de_comp (own := [("one", 6)]) ⟨rfl, sc.nd, (di_seq (de_var 2 (pv 2))), blkOk_by (own := [("one", 6)]) (N := ["size", "schedule", "thing", "at", "gap", "step", "one"]) (sc := defScope s_is_thread) (by decide +kernel), (fun _ _ _ _ _ _ => (dg_name 6 (pg_name (i := 6) sc.nd rfl (by first | exact Or.inl rfl | exact Or.inr rfl)))), (own_name (by simp)), mono_name, (fun _ _ _ _ _ _ => df_nil), (fun _ _ _ _ _ _ => (de_call F_is_integer hg (hr.mono (by decide)) (by rfl) g_is_integer k_is_integer b_is_integer (da_cons (de_var 6 (pv 6)) da_nil)))⟩) da_nil)))))))) (ds_one (ds_ret de_bl)) ds_nil)
    (ds_cons (ds_for PassesOwn.never rfl (di_enum (by rfl) z_enumerate (de_var 1 (pv 1))) (fun _ => (dg_tup rfl (dgs_cons (dg_name 3 (pg_name (i := 3) sc.nd rfl (by first | exact Or.inl rfl | exact Or.inr rfl))) (dgs_cons (dg_name 4 (pg_name (i := 4) sc.nd rfl (by first | exact Or.inl rfl | exact Or.inr rfl))) dgs_nil)))) (fun _ => (ds_cons (ds_set (de_abs (by rfl) z_abs (da_cons (de_sub (de_ix (de_var 2 (pv 2)) (de_var 3 (pv 3))) (de_ix (de_var 2 (pv 2)) (de_add (de_var 3 (pv 3)) de_int))) da_nil)) (fun h => ps_set (i := 5) sc.nd rfl (by first | exact Or.inl rfl | exact Or.inr rfl) h))
    (ds_one (ds_if (dt_ne hr.units (de_var 5 (pv 5)) (de_intc (by rfl) z_int (da_cons (de_eq hr.units (de_mod (de_sub (de_ix (de_var 2 (pv 2)) (de_add (de_var 3 (pv 3)) de_int)) (de_var 4 (pv 4))) (de_var 0 (pv 0))) de_int) da_nil))) (ds_one (ds_ret de_bl)) ds_nil)))))
    (ds_one (ds_ret de_bl))))⟩
/-- cost(thread) -/
def m_cost  : DTS :=
    (mRet (mCB lenD (mCons (mComp (mRng1 (mCons (mOp subD (mCB lenD (mCons (mVar 0) mNil)) (mC (.int 1))) mNil)) (mgName 1) (mTest (mOp gtD (mOp ixD (mVar 0) (mVar 1)) (mOp ixD (mVar 0) (mOp addD (mVar 1) (mC (.int 1)))))) (mVar 1) [1]) mNil)))
set_option maxHeartbeats 4000000 in
theorem walk_cost {f : Addr} {fd : FuncData} (F : Fun K "cost" "cost" s_cost f fd) (z_len : mg "len" = none) (z_range : mg "range" = none)
    {sd : DSp} (hv : ∀ ds Qd Ed, ds.length = 1 → sd ds Qd Ed → m_cost (endsD [.S] Qd) (startD ["thread", "at"] [.S] ds)) :
    FnG P w K mg base 1 f fd ["thread"] (spD K [.S] sd) := by
  refine fn_dm (N := ["thread", "at"]) F sc_cost rfl hv fun cdv A outer s H0 vs E O H hg hr => ?_
  have sc := sc_cost
  unfold m_cost
  exact ⟨_, (ds_one (ds_ret (de_len (by rfl) z_len (da_cons (de_comp (own := [("at", 1)]) ⟨rfl, sc.nd, (di_rng1 (by rfl) z_range (da_cons (de_sub (de_len (by rfl) z_len (da_cons (de_var 0 (pv 0)) da_nil)) de_int) da_nil)), blkOk_by (own := [("at", 1)]) (N := ["thread", "at"]) (sc := defScope s_cost) (by decide +kernel), (fun _ _ _ _ _ _ => (dg_name 1 (pg_name (i := 1) sc.nd rfl (by first | exact Or.inl rfl | exact Or.inr rfl)))), (own_name (by simp)), mono_name, (fun _ _ _ _ _ _ => (df_one (dt_cmp op_gt sim_gt (de_ix (de_var 0 (pv 0)) (de_var 1 (pv 1))) (de_ix (de_var 0 (pv 0)) (de_add (de_var 1 (pv 1)) de_int)) (nomark _)))), (fun _ _ _ _ _ _ => (de_var 1 (pv 1)))⟩) da_nil))))⟩
/-- stepped_back(size, prices, gap) -/
def m_stepped_back  : DTS :=
    (mSeqS (mSetO 3 mDict0)
    (mSeqS (mFor (mItemsW (mVar 1)) (mgTup 2 (mgCons (mgName 4) (mgCons (mgName 5) mgNil))) (mIfS (mTest (mOp neD (mOp modD (mOp subD (mVar 4) (mVar 2)) (mVar 0)) (mC (.int 0)))) (mDPut (mVar 3) (mVar 4) (mCB minD (mCons (mVar 5) (mCons (mDGet2 (mVar 3) (mVar 4) (mVar 5)) mNil)))) (mSeqS (mDPut (mVar 3) (mOp subD (mVar 4) (mC (.int 1))) (mCB minD (mCons (mVar 5) (mCons (mDGet2 (mVar 3) (mOp subD (mVar 4) (mC (.int 1))) (mVar 5)) mNil))))
    (mDPut (mVar 3) (mOp addD (mVar 4) (mC (.int 1))) (mCB minD (mCons (mOp addD (mVar 5) (mC (.int 1))) (mCons (mDGet2 (mVar 3) (mOp addD (mVar 4) (mC (.int 1))) (mOp addD (mVar 5) (mC (.int 1)))) mNil)))))))
    (mRet (mVar 3))))
set_option maxHeartbeats 4000000 in
theorem walk_stepped_back {f : Addr} {fd : FuncData} (F : Fun K "stepped_back" "stepped_back" s_stepped_back f fd) (z_min : mg "min" = none)
    {sd : DSp} (hv : ∀ ds Qd Ed, ds.length = 3 → sd ds Qd Ed → m_stepped_back (endsD [.S, .S, .S] Qd) (startD ["size", "prices", "gap", "earlier", "place", "price"] [.S, .S, .S] ds)) :
    FnG P w K mg base 1 f fd ["size", "prices", "gap"] (spD K [.S, .S, .S] sd) := by
  refine fn_dm (N := ["size", "prices", "gap", "earlier", "place", "price"]) F sc_stepped_back rfl hv fun cdv A outer s H0 vs E O H hg hr => ?_
  have sc := sc_stepped_back
  unfold m_stepped_back
  exact ⟨_, (ds_cons (ds_setO de_dict0 (fun h => ps_set (i := 3) sc.nd rfl (by first | exact Or.inl rfl | exact Or.inr rfl) h))
    (ds_cons (ds_for PassesOwn.never rfl (di_items (de_var 1 (pv 1))) (fun _ => (dg_tup rfl (dgs_cons (dg_name 4 (pg_name (i := 4) sc.nd rfl (by first | exact Or.inl rfl | exact Or.inr rfl))) (dgs_cons (dg_name 5 (pg_name (i := 5) sc.nd rfl (by first | exact Or.inl rfl | exact Or.inr rfl))) dgs_nil)))) (fun _ => (ds_one (ds_if (dt_ne hr.units (de_mod (de_sub (de_var 4 (pv 4)) (de_var 2 (pv 2))) (de_var 0 (pv 0))) de_int) (ds_one (ds_dput (room1 (room65 hr)) (de_var 3 (pv 3)) (de_var 4 (pv 4)) (de_min rfl (by rfl) z_min (da_cons (de_var 5 (pv 5)) (da_cons (de_dget2 (room1 (room65 hr)) (de_var 3 (pv 3)) (de_var 4 (pv 4)) (de_var 5 (pv 5)) ⟨by rfl, by rfl, by rfl, by rfl⟩) da_nil))))) (ds_cons (ds_dput (room1 (room65 hr)) (de_var 3 (pv 3)) (de_sub (de_var 4 (pv 4)) de_int) (de_min rfl (by rfl) z_min (da_cons (de_var 5 (pv 5)) (da_cons (de_dget2 (room1 (room65 hr)) (de_var 3 (pv 3)) (de_sub (de_var 4 (pv 4)) de_int) (de_var 5 (pv 5)) ⟨by rfl, by rfl, by rfl, by rfl⟩) da_nil))))
    (ds_one (ds_dput (room1 (room65 hr)) (de_var 3 (pv 3)) (de_add (de_var 4 (pv 4)) de_int) (de_min rfl (by rfl) z_min (da_cons (de_add (de_var 5 (pv 5)) de_int) (da_cons (de_dget2 (room1 (room65 hr)) (de_var 3 (pv 3)) (de_add (de_var 4 (pv 4)) de_int) (de_add (de_var 5 (pv 5)) de_int) ⟨by rfl, by rfl, by rfl, by rfl⟩) da_nil))))))))))
    (ds_one (ds_ret (de_var 3 (pv 3))))))⟩
/-- layers(size, schedule, end) -/
def m_layers (sd_stepped_back : DSp) : DTS :=
    (mSeqS (mSetO 3 (mLst (mCons (mLock (mDict1 (mVar 2) (mC (.int 0)))) mNil)))
    (mSeqS (mFor (mSeq (mRevL (mVar 1))) (mgName 4) (mDrop (mMut appendD (mVar 3) (mCons (mLock (mCall [.S, .S, .S] sd_stepped_back (mCons (mVar 0) (mCons (mOp ixD (mVar 3) (mUn negD (mC (.int 1)))) (mCons (mVar 4) mNil))))) mNil))))
    (mRet (mRevL (mVar 3)))))
set_option maxHeartbeats 4000000 in
theorem walk_layers {f : Addr} {fd : FuncData} (F : Fun K "layers" "layers" s_layers f fd) {sd_stepped_back : DSp}
    {f_stepped_back : Addr} {fd_stepped_back : FuncData} (F_stepped_back : FnG P w K mg base 1 f_stepped_back fd_stepped_back ["size", "prices", "gap"] (spD K [.S, .S, .S] sd_stepped_back)) (g_stepped_back : mg "stepped_back" = some (.ref f_stepped_back)) (k_stepped_back : PySem.W.keepIn K (.ref f_stepped_back) = true) (b_stepped_back : Binds K fd_stepped_back ["size", "prices", "gap"] [])
    {sd : DSp} (hv : ∀ ds Qd Ed, ds.length = 3 → sd ds Qd Ed → m_layers sd_stepped_back (endsD [.S, .S, .S] Qd) (startD ["size", "schedule", "end", "found", "gap"] [.S, .S, .S] ds)) :
    FnG P w K mg base 2 f fd ["size", "schedule", "end"] (spD K [.S, .S, .S] sd) := by
  refine fn_dm (N := ["size", "schedule", "end", "found", "gap"]) F sc_layers rfl hv fun cdv A outer s H0 vs E O H hg hr => ?_
  have sc := sc_layers
  unfold m_layers
  exact ⟨_, (ds_cons (ds_setO (de_lst (da_cons (de_lock (de_dict1 (fun _ => (de_var 2 (pv 2))) (fun _ => de_int))) da_nil)) (fun h => ps_set (i := 3) sc.nd rfl (by first | exact Or.inl rfl | exact Or.inr rfl) h))
    (ds_cons (ds_for PassesOwn.never rfl (di_seq (de_revL (de_var 1 (pv 1)))) (fun _ => (dg_name 4 (pg_name (i := 4) sc.nd rfl (by first | exact Or.inl rfl | exact Or.inr rfl)))) (fun _ => (ds_one (ds_expr (de_append (fun x y => pe_bm PySem.F.plainAttrs_list PySem.F.slot_list_append PySem.F.type_list_append mt_append x y) (de_var 3 (pv 3)) (da_cons (de_lock (de_call F_stepped_back hg (hr.mono (by decide)) (by rfl) g_stepped_back k_stepped_back b_stepped_back (da_cons (de_var 0 (pv 0)) (da_cons (de_ix (de_var 3 (pv 3)) (de_neg de_int)) (da_cons (de_var 4 (pv 4)) da_nil))))) da_nil))))))
    (ds_one (ds_ret (de_revL (de_var 3 (pv 3)))))))⟩
/-- costs(size, schedule, end) -/
def m_costs (sd_layers : DSp) : DTS :=
    (mRet (mCB sortedPD (mCons (mComp (mItemsW (mOp ixD (mCall [.S, .S, .S] sd_layers (mCons (mVar 0) (mCons (mVar 1) (mCons (mVar 2) mNil)))) (mC (.int 0)))) (mgTup 2 (mgCons (mgName 3) (mgCons (mgName 4) mgNil))) mYes (mTup (mCons (mVar 3) (mCons (mVar 4) mNil))) [3, 4]) mNil)))
set_option maxHeartbeats 4000000 in
theorem walk_costs {f : Addr} {fd : FuncData} (F : Fun K "costs" "costs" s_costs f fd) {sd_layers : DSp}
    {f_layers : Addr} {fd_layers : FuncData} (F_layers : FnG P w K mg base 2 f_layers fd_layers ["size", "schedule", "end"] (spD K [.S, .S, .S] sd_layers)) (g_layers : mg "layers" = some (.ref f_layers)) (k_layers : PySem.W.keepIn K (.ref f_layers) = true) (b_layers : Binds K fd_layers ["size", "schedule", "end"] []) (z_sorted : mg "sorted" = none)
    {sd : DSp} (hv : ∀ ds Qd Ed, ds.length = 3 → sd ds Qd Ed → m_costs sd_layers (endsD [.S, .S, .S] Qd) (startD ["size", "schedule", "end", "begin", "price"] [.S, .S, .S] ds)) :
    FnG P w K mg base 3 f fd ["size", "schedule", "end"] (spD K [.S, .S, .S] sd) := by
  refine fn_dm (N := ["size", "schedule", "end", "begin", "price"]) F sc_costs rfl hv fun cdv A outer s H0 vs E O H hg hr => ?_
  have sc := sc_costs
  unfold m_costs
  exact ⟨_, (ds_one (ds_ret (de_sortedP (by rfl) z_sorted (da_cons (de_comp (own := [("begin", 3), ("price", 4)]) ⟨rfl, sc.nd, (di_items (de_ix (de_call F_layers hg (hr.mono (by decide)) (by rfl) g_layers k_layers b_layers (da_cons (de_var 0 (pv 0)) (da_cons (de_var 1 (pv 1)) (da_cons (de_var 2 (pv 2)) da_nil)))) de_int)), blkOk_by (own := [("begin", 3), ("price", 4)]) (N := ["size", "schedule", "end", "begin", "price"]) (sc := defScope s_costs) (by decide +kernel), (fun _ _ _ _ _ _ => (dg_tup rfl (dgs_cons (dg_name 3 (pg_name (i := 3) sc.nd rfl (by first | exact Or.inl rfl | exact Or.inr rfl))) (dgs_cons (dg_name 4 (pg_name (i := 4) sc.nd rfl (by first | exact Or.inl rfl | exact Or.inr rfl))) dgs_nil)))), (own_tup (own_cons (own_name (by simp)) mono_name (mono_cons mono_name mono_nil) (own_cons (own_name (by simp)) mono_name mono_nil own_nil))), (mono_tup (mono_cons mono_name (mono_cons mono_name mono_nil))), (fun _ _ _ _ _ _ => df_nil), (fun _ _ _ _ _ _ => (de_tup (da_cons (de_var 3 (pv 3)) (da_cons (de_var 4 (pv 4)) da_nil))))⟩) da_nil))))⟩
/-- followed(size, gap, here, later) -/
def m_followed  : DTS :=
    (mSeqS (mIfS (mAnd (mTest (mOp neD (mOp modD (mOp subD (mVar 2) (mVar 1)) (mVar 0)) (mC (.int 0)))) (mTest (mOp dinD (mVar 2) (mVar 3)))) (mSetO 4 (mLst (mCons (mTup (mCons (mOp dgetD (mVar 3) (mVar 2)) (mCons (mC (.int 0)) (mCons (mVar 2) mNil)))) mNil))) (mSetO 4 (mLst mNil)))
    (mSeqS (mIfS (mAnd (mTest (mOp eqD (mOp modD (mOp subD (mOp addD (mVar 2) (mC (.int 1))) (mVar 1)) (mVar 0)) (mC (.int 0)))) (mTest (mOp dinD (mOp addD (mVar 2) (mC (.int 1))) (mVar 3)))) (mDrop (mMut appendD (mVar 4) (mCons (mTup (mCons (mOp dgetD (mVar 3) (mOp addD (mVar 2) (mC (.int 1)))) (mCons (mC (.int 1)) (mCons (mOp addD (mVar 2) (mC (.int 1))) mNil)))) mNil))) mNext)
    (mSeqS (mIfS (mAnd (mTest (mOp eqD (mOp modD (mOp subD (mOp subD (mVar 2) (mC (.int 1))) (mVar 1)) (mVar 0)) (mC (.int 0)))) (mTest (mOp dinD (mOp subD (mVar 2) (mC (.int 1))) (mVar 3)))) (mDrop (mMut appendD (mVar 4) (mCons (mTup (mCons (mOp addD (mOp dgetD (mVar 3) (mOp subD (mVar 2) (mC (.int 1)))) (mC (.int 1))) (mCons (mC (.int 2)) (mCons (mOp subD (mVar 2) (mC (.int 1))) mNil)))) mNil))) mNext)
    (mRet (mOp ixD (mCB minTD (mCons (mVar 4) mNil)) (mC (.int 2)))))))
set_option maxHeartbeats 4000000 in
theorem walk_followed {f : Addr} {fd : FuncData} (F : Fun K "followed" "followed" s_followed f fd) (z_min : mg "min" = none)
    {sd : DSp} (hv : ∀ ds Qd Ed, ds.length = 4 → sd ds Qd Ed → m_followed (endsD [.S, .S, .S, .S] Qd) (startD ["size", "gap", "here", "later", "choices"] [.S, .S, .S, .S] ds)) :
    FnG P w K mg base 1 f fd ["size", "gap", "here", "later"] (spD K [.S, .S, .S, .S] sd) := by
  refine fn_dm (N := ["size", "gap", "here", "later", "choices"]) F sc_followed rfl hv fun cdv A outer s H0 vs E O H hg hr => ?_
  have sc := sc_followed
  unfold m_followed
  exact ⟨_, (ds_cons (ds_if (dw_pt (dw_and (dt_ne hr.units (de_mod (de_sub (de_var 2 (pv 2)) (de_var 1 (pv 1))) (de_var 0 (pv 0))) de_int) (dw_and1 (dt_din (room1 (room65 hr)) (de_var 2 (pv 2)) (de_var 3 (pv 3)))))) (ds_one (ds_setO (de_lst (da_cons (de_tup (da_cons (de_dget (room1 (room65 hr)) (de_var 3 (pv 3)) (de_var 2 (pv 2))) (da_cons de_int (da_cons (de_var 2 (pv 2)) da_nil)))) da_nil)) (fun h => ps_set (i := 4) sc.nd rfl (by first | exact Or.inl rfl | exact Or.inr rfl) h))) (ds_one (ds_setO (de_lst da_nil) (fun h => ps_set (i := 4) sc.nd rfl (by first | exact Or.inl rfl | exact Or.inr rfl) h))))
    (ds_cons (ds_if (dw_pt (dw_and (dt_eq hr.units (de_mod (de_sub (de_add (de_var 2 (pv 2)) de_int) (de_var 1 (pv 1))) (de_var 0 (pv 0))) de_int) (dw_and1 (dt_din (room1 (room65 hr)) (de_add (de_var 2 (pv 2)) de_int) (de_var 3 (pv 3)))))) (ds_one (ds_expr (de_append (fun x y => pe_bm PySem.F.plainAttrs_list PySem.F.slot_list_append PySem.F.type_list_append mt_append x y) (de_var 4 (pv 4)) (da_cons (de_tup (da_cons (de_dget (room1 (room65 hr)) (de_var 3 (pv 3)) (de_add (de_var 2 (pv 2)) de_int)) (da_cons de_int (da_cons (de_add (de_var 2 (pv 2)) de_int) da_nil)))) da_nil)))) ds_nil)
    (ds_cons (ds_if (dw_pt (dw_and (dt_eq hr.units (de_mod (de_sub (de_sub (de_var 2 (pv 2)) de_int) (de_var 1 (pv 1))) (de_var 0 (pv 0))) de_int) (dw_and1 (dt_din (room1 (room65 hr)) (de_sub (de_var 2 (pv 2)) de_int) (de_var 3 (pv 3)))))) (ds_one (ds_expr (de_append (fun x y => pe_bm PySem.F.plainAttrs_list PySem.F.slot_list_append PySem.F.type_list_append mt_append x y) (de_var 4 (pv 4)) (da_cons (de_tup (da_cons (de_add (de_dget (room1 (room65 hr)) (de_var 3 (pv 3)) (de_sub (de_var 2 (pv 2)) de_int)) de_int) (da_cons de_int (da_cons (de_sub (de_var 2 (pv 2)) de_int) da_nil)))) da_nil)))) ds_nil)
    (ds_one (ds_ret (de_ix (de_minT rfl (room65 hr) (by rfl) z_min (da_cons (de_var 4 (pv 4)) da_nil)) de_int))))))⟩
/-- cheapest(size, schedule, begin, end) -/
def m_cheapest (sd_followed sd_layers : DSp) : DTS :=
    (mSeqS (mSet 4 (mCall [.S, .S, .S] sd_layers (mCons (mVar 0) (mCons (mVar 1) (mCons (mVar 3) mNil)))))
    (mSeqS (mIfS (mTest (mOp dninD (mVar 2) (mOp ixD (mVar 4) (mC (.int 0))))) (mRet (mC .non)) mNext)
    (mSeqS (mSetO 5 (mLst (mCons (mVar 2) mNil)))
    (mSeqS (mFor (mEnum (mVar 1)) (mgTup 2 (mgCons (mgName 6) (mgCons (mgName 7) mgNil))) (mDrop (mMut appendD (mVar 5) (mCons (mCall [.S, .S, .S, .S] sd_followed (mCons (mVar 0) (mCons (mVar 7) (mCons (mOp ixD (mVar 5) (mUn negD (mC (.int 1)))) (mCons (mOp ixD (mVar 4) (mOp addD (mVar 6) (mC (.int 1)))) mNil))))) mNil))))
    (mRet (mVar 5))))))
set_option maxHeartbeats 4000000 in
theorem walk_cheapest {f : Addr} {fd : FuncData} (F : Fun K "cheapest" "cheapest" s_cheapest f fd) {sd_followed sd_layers : DSp}
    {f_followed : Addr} {fd_followed : FuncData} (F_followed : FnG P w K mg base 1 f_followed fd_followed ["size", "gap", "here", "later"] (spD K [.S, .S, .S, .S] sd_followed)) (g_followed : mg "followed" = some (.ref f_followed)) (k_followed : PySem.W.keepIn K (.ref f_followed) = true) (b_followed : Binds K fd_followed ["size", "gap", "here", "later"] [])
    {f_layers : Addr} {fd_layers : FuncData} (F_layers : FnG P w K mg base 2 f_layers fd_layers ["size", "schedule", "end"] (spD K [.S, .S, .S] sd_layers)) (g_layers : mg "layers" = some (.ref f_layers)) (k_layers : PySem.W.keepIn K (.ref f_layers) = true) (b_layers : Binds K fd_layers ["size", "schedule", "end"] []) (z_enumerate : mg "enumerate" = none)
    {sd : DSp} (hv : ∀ ds Qd Ed, ds.length = 4 → sd ds Qd Ed → m_cheapest sd_followed sd_layers (endsD [.S, .S, .S, .S] Qd) (startD ["size", "schedule", "begin", "end", "prices", "thread", "at", "gap"] [.S, .S, .S, .S] ds)) :
    FnG P w K mg base 3 f fd ["size", "schedule", "begin", "end"] (spD K [.S, .S, .S, .S] sd) := by
  refine fn_dm (N := ["size", "schedule", "begin", "end", "prices", "thread", "at", "gap"]) F sc_cheapest rfl hv fun cdv A outer s H0 vs E O H hg hr => ?_
  have sc := sc_cheapest
  unfold m_cheapest
  exact ⟨_, (ds_cons (ds_set (de_call F_layers hg (hr.mono (by decide)) (by rfl) g_layers k_layers b_layers (da_cons (de_var 0 (pv 0)) (da_cons (de_var 1 (pv 1)) (da_cons (de_var 3 (pv 3)) da_nil)))) (fun h => ps_set (i := 4) sc.nd rfl (by first | exact Or.inl rfl | exact Or.inr rfl) h))
    (ds_cons (ds_if (dt_dnin (room1 (room65 hr)) (de_var 2 (pv 2)) (de_ix (de_var 4 (pv 4)) de_int)) (ds_one (ds_ret de_non)) ds_nil)
    (ds_cons (ds_setO (de_lst (da_cons (de_var 2 (pv 2)) da_nil)) (fun h => ps_set (i := 5) sc.nd rfl (by first | exact Or.inl rfl | exact Or.inr rfl) h))
    (ds_cons (ds_for PassesOwn.never rfl (di_enum (by rfl) z_enumerate (de_var 1 (pv 1))) (fun _ => (dg_tup rfl (dgs_cons (dg_name 6 (pg_name (i := 6) sc.nd rfl (by first | exact Or.inl rfl | exact Or.inr rfl))) (dgs_cons (dg_name 7 (pg_name (i := 7) sc.nd rfl (by first | exact Or.inl rfl | exact Or.inr rfl))) dgs_nil)))) (fun _ => (ds_one (ds_expr (de_append (fun x y => pe_bm PySem.F.plainAttrs_list PySem.F.slot_list_append PySem.F.type_list_append mt_append x y) (de_var 5 (pv 5)) (da_cons (de_call F_followed hg (hr.mono (by decide)) (by rfl) g_followed k_followed b_followed (da_cons (de_var 0 (pv 0)) (da_cons (de_var 7 (pv 7)) (da_cons (de_ix (de_var 5 (pv 5)) (de_neg de_int)) (da_cons (de_ix (de_var 4 (pv 4)) (de_add (de_var 6 (pv 6)) de_int)) da_nil))))) da_nil))))))
    (ds_one (ds_ret (de_var 5 (pv 5))))))))⟩
/-- Ring.__init__(self, ranks) -/
def m_Ring___init__ (C_Ring : Addr) (sd_is_integer sd_is_size : DSp) : DTS :=
    (mSeqS (mIfS (mOr (mNot (mTest (mIsi "list" (mVar 1)))) (mOr (mNot (mTest (mCall [.S] sd_is_size (mCons (mCB lenD (mCons (mVar 1) mNil)) mNil)))) (mNot (mTest (mCB allD (mCons (mComp (mSeq (mVar 1)) (mgName 2) mYes (mCall [.S] sd_is_integer (mCons (mVar 2) mNil)) [2]) mNil)))))) mNeverS mNext)
    (mSetF C_Ring "rank_list" (mVar 0) (mCB listD (mCons (mVar 1) mNil))))
set_option maxHeartbeats 4000000 in
theorem walk_Ring___init__ {f : Addr} {fd : FuncData} (F : Fun K "__init__" "Ring.__init__" s_Ring___init__ f fd) {C_Ring : Addr} {sd_is_integer sd_is_size : DSp}
    {f_is_integer : Addr} {fd_is_integer : FuncData} (F_is_integer : FnG P w K mg base 1 f_is_integer fd_is_integer ["thing"] (spD K [.S] sd_is_integer)) (g_is_integer : mg "is_integer" = some (.ref f_is_integer)) (k_is_integer : PySem.W.keepIn K (.ref f_is_integer) = true) (b_is_integer : Binds K fd_is_integer ["thing"] [])
    {f_is_size : Addr} {fd_is_size : FuncData} (F_is_size : FnG P w K mg base 3 f_is_size fd_is_size ["thing"] (spD K [.S] sd_is_size)) (g_is_size : mg "is_size" = some (.ref f_is_size)) (k_is_size : PySem.W.keepIn K (.ref f_is_size) = true) (b_is_size : Binds K fd_is_size ["thing"] []) (n_Ring_rank_list : NoAttr K C_Ring "rank_list") (cl_Ring : Cls K C_Ring) (z_list : mg "list" = none) (z_all : mg "all" = none) (z_len : mg "len" = none) (z_isinstance : mg "isinstance" = none)
    {sd : DSp} (hv : ∀ ds Qd Ed, ds.length = 2 → sd ds Qd Ed → m_Ring___init__ C_Ring sd_is_integer sd_is_size (endsD [.M, .S] Qd) (startD ["self", "ranks", "rank"] [.M, .S] ds)) :
    FnG P w K mg base 4 f fd ["self", "ranks"] (spD K [.M, .S] sd) := by
  refine fn_dm (N := ["self", "ranks", "rank"]) F sc_Ring___init__ rfl hv fun cdv A outer s H0 vs E O H hg hr => ?_
  have sc := sc_Ring___init__
  unfold m_Ring___init__
  exact ⟨_, (ds_cons (ds_if (dw_pt (dw_or (dt_not (dt_val (de_isi (T := "list") (by simp) (by rfl) z_isinstance (de_var 1 (pv 1)) (pe_bltn (by rfl) z_list (by decide +kernel) rfl)))) (dw_or (dt_not (dt_val (de_call F_is_size hg (hr.mono (by decide)) (by rfl) g_is_size k_is_size b_is_size (da_cons (de_len (by rfl) z_len (da_cons (de_var 1 (pv 1)) da_nil)) da_nil)))) (dw_or1 (dt_not (dt_val (de_all rfl (by rfl) z_all (da_cons (de_comp (own := [("rank", 2)]) ⟨rfl, sc.nd, (di_seq (de_var 1 (pv 1))), blkOk_by (own := [("rank", 2)]) (N := ["self", "ranks", "rank"]) (sc := defScope s_Ring___init__) (by decide +kernel), (fun _ _ _ _ _ _ => (dg_name 2 (pg_name (i := 2) sc.nd rfl (by first | exact Or.inl rfl | exact Or.inr rfl)))), (own_name (by simp)), mono_name, (fun _ _ _ _ _ _ => df_nil), (fun _ _ _ _ _ _ => (de_call F_is_integer hg (hr.mono (by decide)) (by rfl) g_is_integer k_is_integer b_is_integer (da_cons (de_var 2 (pv 2)) da_nil)))⟩) da_nil)))))))) (ds_one ds_never) ds_nil)
    (ds_one (ds_fld cl_Ring n_Ring_rank_list (de_var 0 (pv 0)) (de_list (by rfl) z_list (da_cons (de_var 1 (pv 1)) da_nil)))))⟩
/-- Ring.size(self) -/
def m_Ring_size (C_Ring : Addr)  : DTS :=
    (mRet (mCB lenD (mCons (mFld C_Ring "rank_list" (mVar 0)) mNil)))
set_option maxHeartbeats 4000000 in
theorem walk_Ring_size {f : Addr} {fd : FuncData} (F : Fun K "size" "Ring.size" s_Ring_size f fd) {C_Ring : Addr} (n_Ring_rank_list : NoAttr K C_Ring "rank_list") (cl_Ring : Cls K C_Ring) (z_len : mg "len" = none)
    {sd : DSp} (hv : ∀ ds Qd Ed, ds.length = 1 → sd ds Qd Ed → m_Ring_size C_Ring (endsD [.S] Qd) (startD ["self"] [.S] ds)) :
    FnG P w K mg base 1 f fd ["self"] (spD K [.S] sd) := by
  refine fn_dm (N := ["self"]) F sc_Ring_size rfl hv fun cdv A outer s H0 vs E O H hg hr => ?_
  have sc := sc_Ring_size
  unfold m_Ring_size
  exact ⟨_, (ds_one (ds_ret (de_len (by rfl) z_len (da_cons (de_fld cl_Ring n_Ring_rank_list (de_var 0 (pv 0))) da_nil))))⟩
/-- Ring.rank(self, place) -/
def m_Ring_rank (C_Ring : Addr) (sd_Ring_size : DSp) : DTS :=
    (mRet (mOp ixD (mFld C_Ring "rank_list" (mVar 0)) (mOp modD (mVar 1) (mCall [.S] sd_Ring_size (mSelf1 C_Ring (mVar 0))))))
set_option maxHeartbeats 4000000 in
theorem walk_Ring_rank {f : Addr} {fd : FuncData} (F : Fun K "rank" "Ring.rank" s_Ring_rank f fd) {C_Ring : Addr} {sd_Ring_size : DSp}
    {f_Ring_size : Addr} {fd_Ring_size : FuncData} (F_Ring_size : FnG P w K mg base 1 f_Ring_size fd_Ring_size ["self"] (spD K [.S] sd_Ring_size)) (b_Ring_size : Binds K fd_Ring_size ["self"] []) (n_Ring_rank_list : NoAttr K C_Ring "rank_list") (cl_Ring : Cls K C_Ring) {p_Ring_size : Addr} (pr_Ring_size : PropOf K C_Ring "size" p_Ring_size f_Ring_size)
    {sd : DSp} (hv : ∀ ds Qd Ed, ds.length = 2 → sd ds Qd Ed → m_Ring_rank C_Ring sd_Ring_size (endsD [.S, .S] Qd) (startD ["self", "place"] [.S, .S] ds)) :
    FnG P w K mg base 3 f fd ["self", "place"] (spD K [.S, .S] sd) := by
  refine fn_dm (N := ["self", "place"]) F sc_Ring_rank rfl hv fun cdv A outer s H0 vs E O H hg hr => ?_
  have sc := sc_Ring_rank
  unfold m_Ring_rank
  exact ⟨_, (ds_one (ds_ret (de_ix (de_fld cl_Ring n_Ring_rank_list (de_var 0 (pv 0))) (de_mod (de_var 1 (pv 1)) (de_prop cl_Ring pr_Ring_size F_Ring_size hg (hr.mono (by decide)) b_Ring_size (de_var 0 (pv 0)))))))⟩
/-- end_of(outcome, place) -/
def m_end_of  : DTS :=
    (mSeqS (mAsg (mCB divmodD (mCons (mVar 1) (mCons (mCB lenD (mCons (mVar 0) mNil)) mNil))) (mgTup 2 (mgCons (mgName 2) (mgCons (mgName 3) mgNil))))
    (mRet (mOp addD (mOp ixD (mVar 0) (mVar 3)) (mOp mulD (mVar 2) (mCB lenD (mCons (mVar 0) mNil))))))
set_option maxHeartbeats 4000000 in
theorem walk_end_of {f : Addr} {fd : FuncData} (F : Fun K "end_of" "end_of" s_end_of f fd) (z_len : mg "len" = none) (z_divmod : mg "divmod" = none)
    {sd : DSp} (hv : ∀ ds Qd Ed, ds.length = 2 → sd ds Qd Ed → m_end_of (endsD [.S, .S] Qd) (startD ["outcome", "place", "laps", "person"] [.S, .S] ds)) :
    FnG P w K mg base 1 f fd ["outcome", "place"] (spD K [.S, .S] sd) := by
  refine fn_dm (N := ["outcome", "place", "laps", "person"]) F sc_end_of rfl hv fun cdv A outer s H0 vs E O H hg hr => ?_
  have sc := sc_end_of
  unfold m_end_of
  exact ⟨_, (ds_cons (ds_asg (de_divmod (by rfl) z_divmod (da_cons (de_var 1 (pv 1)) (da_cons (de_len (by rfl) z_len (da_cons (de_var 0 (pv 0)) da_nil)) da_nil))) (dg_tup rfl (dgs_cons (dg_name 2 (pg_name (i := 2) sc.nd rfl (by first | exact Or.inl rfl | exact Or.inr rfl))) (dgs_cons (dg_name 3 (pg_name (i := 3) sc.nd rfl (by first | exact Or.inl rfl | exact Or.inr rfl))) dgs_nil))))
    (ds_one (ds_ret (de_add (de_ix (de_var 0 (pv 0)) (de_var 3 (pv 3))) (de_mul (de_var 2 (pv 2)) (de_len (by rfl) z_len (da_cons (de_var 0 (pv 0)) da_nil)))))))⟩
/-- back(outcome) -/
def m_back  : DTS :=
    (mSeqS (mSet 1 (mCB lenD (mCons (mVar 0) mNil)))
    (mSeqS (mSetO 2 (mOp mulD (mLst (mCons (mC (.int 0)) mNil)) (mVar 1)))
    (mSeqS (mFor (mEnum (mVar 0)) (mgTup 2 (mgCons (mgName 3) (mgCons (mgName 4) mgNil))) (mAsg (mOp subD (mVar 3) (mOp mulD (mOp fdivD (mVar 4) (mVar 1)) (mVar 1))) (mgSub (mVar 2) (mOp modD (mVar 4) (mVar 1)) stD)))
    (mRet (mCB tupleD (mCons (mVar 2) mNil))))))
set_option maxHeartbeats 4000000 in
theorem walk_back {f : Addr} {fd : FuncData} (F : Fun K "back" "back" s_back f fd) (z_tuple : mg "tuple" = none) (z_enumerate : mg "enumerate" = none) (z_len : mg "len" = none)
    {sd : DSp} (hv : ∀ ds Qd Ed, ds.length = 1 → sd ds Qd Ed → m_back (endsD [.S] Qd) (startD ["outcome", "size", "begins", "person", "end"] [.S] ds)) :
    FnG P w K mg base 1 f fd ["outcome"] (spD K [.S] sd) := by
  refine fn_dm (N := ["outcome", "size", "begins", "person", "end"]) F sc_back rfl hv fun cdv A outer s H0 vs E O H hg hr => ?_
  have sc := sc_back
  unfold m_back
  exact ⟨_, (ds_cons (ds_set (de_len (by rfl) z_len (da_cons (de_var 0 (pv 0)) da_nil)) (fun h => ps_set (i := 1) sc.nd rfl (by first | exact Or.inl rfl | exact Or.inr rfl) h))
    (ds_cons (ds_setO (de_mul (de_lst (da_cons de_int da_nil)) (de_var 1 (pv 1))) (fun h => ps_set (i := 2) sc.nd rfl (by first | exact Or.inl rfl | exact Or.inr rfl) h))
    (ds_cons (ds_for PassesOwn.never rfl (di_enum (by rfl) z_enumerate (de_var 0 (pv 0))) (fun _ => (dg_tup rfl (dgs_cons (dg_name 3 (pg_name (i := 3) sc.nd rfl (by first | exact Or.inl rfl | exact Or.inr rfl))) (dgs_cons (dg_name 4 (pg_name (i := 4) sc.nd rfl (by first | exact Or.inl rfl | exact Or.inr rfl))) dgs_nil)))) (fun _ => (ds_one (ds_asg (de_sub (de_var 3 (pv 3)) (de_mul (de_fdiv (de_var 4 (pv 4)) (de_var 1 (pv 1))) (de_var 1 (pv 1)))) (dg_sub (fun a b => pg_sub a b set_list) (de_var 2 (pv 2)) (de_mod (de_var 4 (pv 4)) (de_var 1 (pv 1))))))))
    (ds_one (ds_ret (de_tuple (by rfl) z_tuple (da_cons (de_var 2 (pv 2)) da_nil)))))))⟩
/-- carried(outcome, begin, end) -/
def m_carried  : DTS :=
    (mSeqS (mPar (mPCons (mCB lenD (mCons (mVar 0) mNil)) (mPCons (mC (.int 0)) mPNil)) (.sh 3 :: .sh 4 :: []))
    (mSeqS (mFor (mEnum (mVar 0)) (mgTup 2 (mgCons (mgName 5) (mgCons (mgName 6) mgNil))) (mAug 4 (mCB maxD (mCons (mC (.int 0)) (mCons (mOp subD (mOp fdivD (mOp subD (mVar 1) (mVar 5)) (mVar 3)) (mOp fdivD (mOp subD (mVar 2) (mVar 6)) (mVar 3))) mNil))) addI))
    (mRet (mVar 4))))
set_option maxHeartbeats 4000000 in
theorem walk_carried {f : Addr} {fd : FuncData} (F : Fun K "carried" "carried" s_carried f fd) (z_enumerate : mg "enumerate" = none) (z_max : mg "max" = none) (z_len : mg "len" = none)
    {sd : DSp} (hv : ∀ ds Qd Ed, ds.length = 3 → sd ds Qd Ed → m_carried (endsD [.S, .S, .S] Qd) (startD ["outcome", "begin", "end", "size", "total", "person", "place"] [.S, .S, .S] ds)) :
    FnG P w K mg base 1 f fd ["outcome", "begin", "end"] (spD K [.S, .S, .S] sd) := by
  refine fn_dm (N := ["outcome", "begin", "end", "size", "total", "person", "place"]) F sc_carried rfl hv fun cdv A outer s H0 vs E O H hg hr => ?_
  have sc := sc_carried
  unfold m_carried
  exact ⟨_, (ds_cons (ds_par2 (fun h => ps_par (i := 3) (j := 4) rfl sc.nd rfl rfl (by decide) rfl rfl h (by rfl)) (dp_cons (de_len (by rfl) z_len (da_cons (de_var 0 (pv 0)) da_nil)) (fun _ => (dp_cons de_int (fun _ => dp_nil)))) (sim_tsh (sim_tsh sim_tnil 4) 3))
    (ds_cons (ds_for PassesOwn.never rfl (di_enum (by rfl) z_enumerate (de_var 0 (pv 0))) (fun _ => (dg_tup rfl (dgs_cons (dg_name 5 (pg_name (i := 5) sc.nd rfl (by first | exact Or.inl rfl | exact Or.inr rfl))) (dgs_cons (dg_name 6 (pg_name (i := 6) sc.nd rfl (by first | exact Or.inl rfl | exact Or.inr rfl))) dgs_nil)))) (fun _ => (ds_one (ds_augAdd (de_max rfl (by rfl) z_max (da_cons de_int (da_cons (de_sub (de_fdiv (de_sub (de_var 1 (pv 1)) (de_var 5 (pv 5))) (de_var 3 (pv 3))) (de_fdiv (de_sub (de_var 2 (pv 2)) (de_var 6 (pv 6))) (de_var 3 (pv 3)))) da_nil))) (fun h => ps_aug (i := 4) sc.nd rfl (by first | exact Or.inl rfl | exact Or.inr rfl) h ip_add)))))
    (ds_one (ds_ret (de_var 4 (pv 4))))))⟩
/-- barred_pass(ring, outcome) -/
def m_barred_pass (C_Ring : Addr) (sd_Ring_size sd_Ring_rank sd_end_of : DSp) : DTS :=
    (mSeqS (mFor (mRng1 (mCons (mCall [.S] sd_Ring_size (mSelf1 C_Ring (mVar 0))) mNil)) (mgName 2) (mFor (mRng2 (mCons (mOp addD (mVar 2) (mC (.int 1))) (mCons (mOp addD (mVar 2) (mCall [.S] sd_Ring_size (mSelf1 C_Ring (mVar 0)))) mNil))) (mgName 3) (mIfS (mAnd (mTest (mOp ltD (mCall [.S, .S] sd_end_of (mCons (mVar 1) (mCons (mVar 3) mNil))) (mCall [.S, .S] sd_end_of (mCons (mVar 1) (mCons (mVar 2) mNil))))) (mTest (mOp leD (mCall [.S, .S] sd_Ring_rank (mSelf C_Ring "rank" (mVar 0) (mCons (mVar 2) mNil))) (mCall [.S, .S] sd_Ring_rank (mSelf C_Ring "rank" (mVar 0) (mCons (mVar 3) mNil)))))) (mRet (mTup (mCons (mVar 2) (mCons (mVar 3) mNil)))) mNext)))
    (mRet (mC .non)))
set_option maxHeartbeats 4000000 in
theorem walk_barred_pass {f : Addr} {fd : FuncData} (F : Fun K "barred_pass" "barred_pass" s_barred_pass f fd) {C_Ring : Addr} {sd_Ring_size sd_Ring_rank sd_end_of : DSp}
    {f_Ring_size : Addr} {fd_Ring_size : FuncData} (F_Ring_size : FnG P w K mg base 1 f_Ring_size fd_Ring_size ["self"] (spD K [.S] sd_Ring_size)) (b_Ring_size : Binds K fd_Ring_size ["self"] [])
    {f_Ring_rank : Addr} {fd_Ring_rank : FuncData} (F_Ring_rank : FnG P w K mg base 3 f_Ring_rank fd_Ring_rank ["self", "place"] (spD K [.S, .S] sd_Ring_rank)) (b_Ring_rank : Binds K fd_Ring_rank ["self", "place"] [])
    {f_end_of : Addr} {fd_end_of : FuncData} (F_end_of : FnG P w K mg base 1 f_end_of fd_end_of ["outcome", "place"] (spD K [.S, .S] sd_end_of)) (g_end_of : mg "end_of" = some (.ref f_end_of)) (k_end_of : PySem.W.keepIn K (.ref f_end_of) = true) (b_end_of : Binds K fd_end_of ["outcome", "place"] []) {p_Ring_size : Addr} (pr_Ring_size : PropOf K C_Ring "size" p_Ring_size f_Ring_size) (cl_Ring : Cls K C_Ring) (mt_Ring_rank : Meth K C_Ring "rank" f_Ring_rank) (z_range : mg "range" = none)
    {sd : DSp} (hv : ∀ ds Qd Ed, ds.length = 2 → sd ds Qd Ed → m_barred_pass C_Ring sd_Ring_size sd_Ring_rank sd_end_of (endsD [.S, .S] Qd) (startD ["ring", "outcome", "one", "other"] [.S, .S] ds)) :
    FnG P w K mg base 4 f fd ["ring", "outcome"] (spD K [.S, .S] sd) := by
  refine fn_dm (N := ["ring", "outcome", "one", "other"]) F sc_barred_pass rfl hv fun cdv A outer s H0 vs E O H hg hr => ?_
  have sc := sc_barred_pass
  unfold m_barred_pass
  exact ⟨_, (ds_cons (ds_for PassesOwn.never rfl (di_rng1 (by rfl) z_range (da_cons (de_prop cl_Ring pr_Ring_size F_Ring_size hg (hr.mono (by decide)) b_Ring_size (de_var 0 (pv 0))) da_nil)) (fun _ => (dg_name 2 (pg_name (i := 2) sc.nd rfl (by first | exact Or.inl rfl | exact Or.inr rfl)))) (fun _ => (ds_one (ds_for PassesOwn.never rfl (di_rng2 (by rfl) z_range (da_cons (de_add (de_var 2 (pv 2)) de_int) (da_cons (de_add (de_var 2 (pv 2)) (de_prop cl_Ring pr_Ring_size F_Ring_size hg (hr.mono (by decide)) b_Ring_size (de_var 0 (pv 0)))) da_nil))) (fun _ => (dg_name 3 (pg_name (i := 3) sc.nd rfl (by first | exact Or.inl rfl | exact Or.inr rfl)))) (fun _ => (ds_one (ds_if (dw_pt (dw_and (dt_cmp op_lt sim_lt (de_call F_end_of hg (hr.mono (by decide)) (by rfl) g_end_of k_end_of b_end_of (da_cons (de_var 1 (pv 1)) (da_cons (de_var 3 (pv 3)) da_nil))) (de_call F_end_of hg (hr.mono (by decide)) (by rfl) g_end_of k_end_of b_end_of (da_cons (de_var 1 (pv 1)) (da_cons (de_var 2 (pv 2)) da_nil))) (nomark _)) (dw_and1 (dt_cmp op_le sim_le (de_meth cl_Ring mt_Ring_rank F_Ring_rank hg (hr.mono (by decide)) b_Ring_rank (de_var 0 (pv 0)) (da_cons (de_var 2 (pv 2)) da_nil)) (de_meth cl_Ring mt_Ring_rank F_Ring_rank hg (hr.mono (by decide)) b_Ring_rank (de_var 0 (pv 0)) (da_cons (de_var 3 (pv 3)) da_nil)) (nomark _))))) (ds_one (ds_ret (de_tup (da_cons (de_var 2 (pv 2)) (da_cons (de_var 3 (pv 3)) da_nil))))) ds_nil)))))))
    (ds_one (ds_ret de_non)))⟩
/-- calls_taken_back(size, schedule, outcome) -/
def m_calls_taken_back (sd_back : DSp) : DTS :=
    (mSeqS (mSetO 3 (mCB listD (mCons (mCall [.S] sd_back (mCons (mVar 2) mNil)) mNil)))
    (mSeqS (mSetO 4 (mLst mNil))
    (mSeqS (mFor (mRng3 (mCons (mOp subD (mCB lenD (mCons (mVar 1) mNil)) (mC (.int 1))) (mCons (mUn negD (mC (.int 1))) (mCons (mUn negD (mC (.int 1))) mNil)))) (mgName 5) (mSeqS (mPar (mPCons (mOp ixD (mVar 1) (mVar 5)) (mPCons (mOp modD (mOp addD (mOp ixD (mVar 1) (mVar 5)) (mC (.int 1))) (mVar 0)) mPNil)) (.sh 7 :: .sh 8 :: []))
    (mSeqS (mSet 6 (mOp mulD (mOp fdivD (mOp addD (mVar 7) (mC (.int 1))) (mVar 0)) (mVar 0)))
    (mSeqS (mPar (mPCons (mOp ixD (mVar 3) (mVar 7)) (mPCons (mOp addD (mOp ixD (mVar 3) (mVar 8)) (mVar 6)) mPNil)) (.sh 9 :: .sh 10 :: []))
    (mIfS (mTest (mOp ltD (mVar 10) (mVar 9))) (mSeqS (mDrop (mMut appendD (mVar 4) (mCons (mVar 5) mNil)))
    (mPar3 2 (mPCons (mVar 10) (mPCons (mOp subD (mVar 9) (mVar 6)) mPNil)) (.sub (mVar 3) (mVar 7) :: .sub (mVar 3) (mVar 8) :: []))) mNext)))))
    (mRet (mIf (mTest (mOp eqD (mVar 3) (mLRg (mRg1 (mVar 0))))) (mRevL (mVar 4)) (mC .non))))))
set_option maxHeartbeats 4000000 in
theorem walk_calls_taken_back {f : Addr} {fd : FuncData} (F : Fun K "calls_taken_back" "calls_taken_back" s_calls_taken_back f fd) {sd_back : DSp}
    {f_back : Addr} {fd_back : FuncData} (F_back : FnG P w K mg base 1 f_back fd_back ["outcome"] (spD K [.S] sd_back)) (g_back : mg "back" = some (.ref f_back)) (k_back : PySem.W.keepIn K (.ref f_back) = true) (b_back : Binds K fd_back ["outcome"] []) (z_list : mg "list" = none) (z_range : mg "range" = none) (z_len : mg "len" = none)
    {sd : DSp} (hv : ∀ ds Qd Ed, ds.length = 3 → sd ds Qd Ed → m_calls_taken_back sd_back (endsD [.S, .S, .S] Qd) (startD ["size", "schedule", "outcome", "begins", "found", "at", "shift", "gap", "following", "first", "second"] [.S, .S, .S] ds)) :
    FnG P w K mg base 2 f fd ["size", "schedule", "outcome"] (spD K [.S, .S, .S] sd) := by
  refine fn_dm (N := ["size", "schedule", "outcome", "begins", "found", "at", "shift", "gap", "following", "first", "second"]) F sc_calls_taken_back rfl hv fun cdv A outer s H0 vs E O H hg hr => ?_
  have sc := sc_calls_taken_back
  unfold m_calls_taken_back
  exact ⟨_, (ds_cons (ds_setO (de_list (by rfl) z_list (da_cons (de_call F_back hg (hr.mono (by decide)) (by rfl) g_back k_back b_back (da_cons (de_var 2 (pv 2)) da_nil)) da_nil)) (fun h => ps_set (i := 3) sc.nd rfl (by first | exact Or.inl rfl | exact Or.inr rfl) h))
    (ds_cons (ds_setO (de_lst da_nil) (fun h => ps_set (i := 4) sc.nd rfl (by first | exact Or.inl rfl | exact Or.inr rfl) h))
    (ds_cons (ds_for PassesOwn.never rfl (di_rng3 (by rfl) z_range (da_cons (de_sub (de_len (by rfl) z_len (da_cons (de_var 1 (pv 1)) da_nil)) de_int) (da_cons (de_neg de_int) (da_cons (de_neg de_int) da_nil)))) (fun _ => (dg_name 5 (pg_name (i := 5) sc.nd rfl (by first | exact Or.inl rfl | exact Or.inr rfl)))) (fun _ => (ds_cons (ds_par2 (fun h => ps_par (i := 7) (j := 8) rfl sc.nd rfl rfl (by decide) rfl rfl h (by rfl)) (dp_cons (de_ix (de_var 1 (pv 1)) (de_var 5 (pv 5))) (fun _ => (dp_cons (de_mod (de_add (de_ix (de_var 1 (pv 1)) (de_var 5 (pv 5))) de_int) (de_var 0 (pv 0))) (fun _ => dp_nil)))) (sim_tsh (sim_tsh sim_tnil 8) 7))
    (ds_cons (ds_set (de_mul (de_fdiv (de_add (de_var 7 (pv 7)) de_int) (de_var 0 (pv 0))) (de_var 0 (pv 0))) (fun h => ps_set (i := 6) sc.nd rfl (by first | exact Or.inl rfl | exact Or.inr rfl) h))
    (ds_cons (ds_par2 (fun h => ps_par (i := 9) (j := 10) rfl sc.nd rfl rfl (by decide) rfl rfl h (by rfl)) (dp_cons (de_ix (de_var 3 (pv 3)) (de_var 7 (pv 7))) (fun _ => (dp_cons (de_add (de_ix (de_var 3 (pv 3)) (de_var 8 (pv 8))) (de_var 6 (pv 6))) (fun _ => dp_nil)))) (sim_tsh (sim_tsh sim_tnil 10) 9))
    (ds_one (ds_if (dt_cmp op_lt sim_lt (de_var 10 (pv 10)) (de_var 9 (pv 9)) (nomark _)) (ds_cons (ds_expr (de_append (fun x y => pe_bm PySem.F.plainAttrs_list PySem.F.slot_list_append PySem.F.type_list_append mt_append x y) (de_var 4 (pv 4)) (da_cons (de_var 5 (pv 5)) da_nil)))
    (ds_one (ds_asgT (n := 2) (dp_cons (de_var 10 (pv 10)) (fun _ => (dp_cons (de_sub (de_var 9 (pv 9)) (de_var 6 (pv 6))) (fun _ => dp_nil)))) (dts_sub (fun a b => pg_sub a b set_list) (fun _ => (de_var 3 (pv 3))) (fun _ => (de_var 7 (pv 7))) (dts_sub (fun a b => pg_sub a b set_list) (fun _ => (de_var 3 (pv 3))) (fun _ => (de_var 8 (pv 8))) dts_nil)) rfl (by decide)))) ds_nil)))))))
    (ds_one (ds_ret (de_if (dt_eq hr.units (de_var 3 (pv 3)) (de_listRg rfl (by rfl) z_list (dr_1 (by rfl) z_range (de_var 0 (pv 0))))) (de_revL (de_var 4 (pv 4))) de_non))))))⟩
/-- cheap_thread(size, schedule, outcome) -/
def m_cheap_thread (sd_costs sd_carried sd_cheapest : DSp) : DTS :=
    (mSeqS (mFor (mRng1 (mCons (mVar 0) mNil)) (mgName 3) (mFor (mSeq (mCall [.S, .S, .S] sd_costs (mCons (mVar 0) (mCons (mVar 1) (mCons (mVar 3) mNil))))) (mgTup 2 (mgCons (mgName 4) (mgCons (mgName 5) mgNil))) (mIfS (mTest (mOp ltD (mVar 5) (mCall [.S, .S, .S] sd_carried (mCons (mVar 2) (mCons (mVar 4) (mCons (mVar 3) mNil)))))) (mRet (mCall [.S, .S, .S, .S] sd_cheapest (mCons (mVar 0) (mCons (mVar 1) (mCons (mVar 4) (mCons (mVar 3) mNil)))))) mNext)))
    (mRet (mC .non)))
set_option maxHeartbeats 4000000 in
theorem walk_cheap_thread {f : Addr} {fd : FuncData} (F : Fun K "cheap_thread" "cheap_thread" s_cheap_thread f fd) {sd_costs sd_carried sd_cheapest : DSp}
    {f_costs : Addr} {fd_costs : FuncData} (F_costs : FnG P w K mg base 3 f_costs fd_costs ["size", "schedule", "end"] (spD K [.S, .S, .S] sd_costs)) (g_costs : mg "costs" = some (.ref f_costs)) (k_costs : PySem.W.keepIn K (.ref f_costs) = true) (b_costs : Binds K fd_costs ["size", "schedule", "end"] [])
    {f_carried : Addr} {fd_carried : FuncData} (F_carried : FnG P w K mg base 1 f_carried fd_carried ["outcome", "begin", "end"] (spD K [.S, .S, .S] sd_carried)) (g_carried : mg "carried" = some (.ref f_carried)) (k_carried : PySem.W.keepIn K (.ref f_carried) = true) (b_carried : Binds K fd_carried ["outcome", "begin", "end"] [])
    {f_cheapest : Addr} {fd_cheapest : FuncData} (F_cheapest : FnG P w K mg base 3 f_cheapest fd_cheapest ["size", "schedule", "begin", "end"] (spD K [.S, .S, .S, .S] sd_cheapest)) (g_cheapest : mg "cheapest" = some (.ref f_cheapest)) (k_cheapest : PySem.W.keepIn K (.ref f_cheapest) = true) (b_cheapest : Binds K fd_cheapest ["size", "schedule", "begin", "end"] []) (z_range : mg "range" = none)
    {sd : DSp} (hv : ∀ ds Qd Ed, ds.length = 3 → sd ds Qd Ed → m_cheap_thread sd_costs sd_carried sd_cheapest (endsD [.S, .S, .S] Qd) (startD ["size", "schedule", "outcome", "end", "begin", "price"] [.S, .S, .S] ds)) :
    FnG P w K mg base 4 f fd ["size", "schedule", "outcome"] (spD K [.S, .S, .S] sd) := by
  refine fn_dm (N := ["size", "schedule", "outcome", "end", "begin", "price"]) F sc_cheap_thread rfl hv fun cdv A outer s H0 vs E O H hg hr => ?_
  have sc := sc_cheap_thread
  unfold m_cheap_thread
  exact ⟨_, (ds_cons (ds_for PassesOwn.never rfl (di_rng1 (by rfl) z_range (da_cons (de_var 0 (pv 0)) da_nil)) (fun _ => (dg_name 3 (pg_name (i := 3) sc.nd rfl (by first | exact Or.inl rfl | exact Or.inr rfl)))) (fun _ => (ds_one (ds_for PassesOwn.never rfl (di_seq (de_call F_costs hg (hr.mono (by decide)) (by rfl) g_costs k_costs b_costs (da_cons (de_var 0 (pv 0)) (da_cons (de_var 1 (pv 1)) (da_cons (de_var 3 (pv 3)) da_nil))))) (fun _ => (dg_tup rfl (dgs_cons (dg_name 4 (pg_name (i := 4) sc.nd rfl (by first | exact Or.inl rfl | exact Or.inr rfl))) (dgs_cons (dg_name 5 (pg_name (i := 5) sc.nd rfl (by first | exact Or.inl rfl | exact Or.inr rfl))) dgs_nil)))) (fun _ => (ds_one (ds_if (dt_cmp op_lt sim_lt (de_var 5 (pv 5)) (de_call F_carried hg (hr.mono (by decide)) (by rfl) g_carried k_carried b_carried (da_cons (de_var 2 (pv 2)) (da_cons (de_var 4 (pv 4)) (da_cons (de_var 3 (pv 3)) da_nil)))) (nomark _)) (ds_one (ds_ret (de_call F_cheapest hg (hr.mono (by decide)) (by rfl) g_cheapest k_cheapest b_cheapest (da_cons (de_var 0 (pv 0)) (da_cons (de_var 1 (pv 1)) (da_cons (de_var 4 (pv 4)) (da_cons (de_var 3 (pv 3)) da_nil))))))) ds_nil)))))))
    (ds_one (ds_ret de_non)))⟩
/-- decide(ring, schedule, outcome) -/
def m_decide (C_Ring : Addr) (sd_cheap_thread sd_Ring_size sd_calls_taken_back sd_barred_pass : DSp) : DTS :=
    (mSeqS (mSet 3 (mCall [.S, .S] sd_barred_pass (mCons (mVar 0) (mCons (mVar 2) mNil))))
    (mSeqS (mIfS (mTest (mOp isNotD (mVar 3) (mC .non))) (mRet (mTup (mCons (mC (.str "pass")) (mCons (mOp ixD (mVar 3) (mC (.int 0))) (mCons (mOp ixD (mVar 3) (mC (.int 1))) mNil))))) mNext)
    (mSeqS (mSet 4 (mCall [.S, .S, .S] sd_calls_taken_back (mCons (mCall [.S] sd_Ring_size (mSelf1 C_Ring (mVar 0))) (mCons (mVar 1) (mCons (mVar 2) mNil)))))
    (mSeqS (mIfS (mTest (mOp isNotD (mVar 4) (mC .non))) (mRet (mTup (mCons (mC (.str "kept")) (mCons (mVar 4) mNil)))) mNext)
    (mRet (mTup (mCons (mC (.str "thread")) (mCons (mCall [.S, .S, .S] sd_cheap_thread (mCons (mCall [.S] sd_Ring_size (mSelf1 C_Ring (mVar 0))) (mCons (mVar 1) (mCons (mVar 2) mNil)))) mNil))))))))
set_option maxHeartbeats 4000000 in
theorem walk_decide {f : Addr} {fd : FuncData} (F : Fun K "decide" "decide" s_decide f fd) {C_Ring : Addr} {sd_cheap_thread sd_Ring_size sd_calls_taken_back sd_barred_pass : DSp}
    {f_cheap_thread : Addr} {fd_cheap_thread : FuncData} (F_cheap_thread : FnG P w K mg base 4 f_cheap_thread fd_cheap_thread ["size", "schedule", "outcome"] (spD K [.S, .S, .S] sd_cheap_thread)) (g_cheap_thread : mg "cheap_thread" = some (.ref f_cheap_thread)) (k_cheap_thread : PySem.W.keepIn K (.ref f_cheap_thread) = true) (b_cheap_thread : Binds K fd_cheap_thread ["size", "schedule", "outcome"] [])
    {f_Ring_size : Addr} {fd_Ring_size : FuncData} (F_Ring_size : FnG P w K mg base 1 f_Ring_size fd_Ring_size ["self"] (spD K [.S] sd_Ring_size)) (b_Ring_size : Binds K fd_Ring_size ["self"] [])
    {f_calls_taken_back : Addr} {fd_calls_taken_back : FuncData} (F_calls_taken_back : FnG P w K mg base 2 f_calls_taken_back fd_calls_taken_back ["size", "schedule", "outcome"] (spD K [.S, .S, .S] sd_calls_taken_back)) (g_calls_taken_back : mg "calls_taken_back" = some (.ref f_calls_taken_back)) (k_calls_taken_back : PySem.W.keepIn K (.ref f_calls_taken_back) = true) (b_calls_taken_back : Binds K fd_calls_taken_back ["size", "schedule", "outcome"] [])
    {f_barred_pass : Addr} {fd_barred_pass : FuncData} (F_barred_pass : FnG P w K mg base 4 f_barred_pass fd_barred_pass ["ring", "outcome"] (spD K [.S, .S] sd_barred_pass)) (g_barred_pass : mg "barred_pass" = some (.ref f_barred_pass)) (k_barred_pass : PySem.W.keepIn K (.ref f_barred_pass) = true) (b_barred_pass : Binds K fd_barred_pass ["ring", "outcome"] []) {p_Ring_size : Addr} (pr_Ring_size : PropOf K C_Ring "size" p_Ring_size f_Ring_size) (cl_Ring : Cls K C_Ring)
    {sd : DSp} (hv : ∀ ds Qd Ed, ds.length = 3 → sd ds Qd Ed → m_decide C_Ring sd_cheap_thread sd_Ring_size sd_calls_taken_back sd_barred_pass (endsD [.S, .S, .S] Qd) (startD ["ring", "schedule", "outcome", "barred", "indexes"] [.S, .S, .S] ds)) :
    FnG P w K mg base 5 f fd ["ring", "schedule", "outcome"] (spD K [.S, .S, .S] sd) := by
  refine fn_dm (N := ["ring", "schedule", "outcome", "barred", "indexes"]) F sc_decide rfl hv fun cdv A outer s H0 vs E O H hg hr => ?_
  have sc := sc_decide
  unfold m_decide
  exact ⟨_, (ds_cons (ds_set (de_call F_barred_pass hg (hr.mono (by decide)) (by rfl) g_barred_pass k_barred_pass b_barred_pass (da_cons (de_var 0 (pv 0)) (da_cons (de_var 2 (pv 2)) da_nil))) (fun h => ps_set (i := 3) sc.nd rfl (by first | exact Or.inl rfl | exact Or.inr rfl) h))
    (ds_cons (ds_if (dt_cmp op_uIsNot sim_isNot (de_var 3 (pv 3)) de_non (nomark _)) (ds_one (ds_ret (de_tup (da_cons de_str (da_cons (de_ix (de_var 3 (pv 3)) de_int) (da_cons (de_ix (de_var 3 (pv 3)) de_int) da_nil)))))) ds_nil)
    (ds_cons (ds_set (de_call F_calls_taken_back hg (hr.mono (by decide)) (by rfl) g_calls_taken_back k_calls_taken_back b_calls_taken_back (da_cons (de_prop cl_Ring pr_Ring_size F_Ring_size hg (hr.mono (by decide)) b_Ring_size (de_var 0 (pv 0))) (da_cons (de_var 1 (pv 1)) (da_cons (de_var 2 (pv 2)) da_nil)))) (fun h => ps_set (i := 4) sc.nd rfl (by first | exact Or.inl rfl | exact Or.inr rfl) h))
    (ds_cons (ds_if (dt_cmp op_uIsNot sim_isNot (de_var 4 (pv 4)) de_non (nomark _)) (ds_one (ds_ret (de_tup (da_cons de_str (da_cons (de_var 4 (pv 4)) da_nil))))) ds_nil)
    (ds_one (ds_ret (de_tup (da_cons de_str (da_cons (de_call F_cheap_thread hg (hr.mono (by decide)) (by rfl) g_cheap_thread k_cheap_thread b_cheap_thread (da_cons (de_prop cl_Ring pr_Ring_size F_Ring_size hg (hr.mono (by decide)) b_Ring_size (de_var 0 (pv 0))) (da_cons (de_var 1 (pv 1)) (da_cons (de_var 2 (pv 2)) da_nil)))) da_nil)))))))))⟩
/-- is_barred(ring, outcome, one, other) -/
def m_is_barred (C_Ring : Addr) (sd_Ring_rank sd_end_of sd_is_integer sd_is_between sd_Ring_size : DSp) : DTS :=
    (mSeqS (mIfS (mOr (mNot (mTest (mCall [.S, .S, .S] sd_is_between (mCons (mVar 2) (mCons (mC (.int 0)) (mCons (mOp subD (mCall [.S] sd_Ring_size (mSelf1 C_Ring (mVar 0))) (mC (.int 1))) mNil)))))) (mOr (mNot (mTest (mCall [.S] sd_is_integer (mCons (mVar 3) mNil)))) (mTest (mOp leD (mVar 3) (mVar 2))))) (mRet (mC (.bl false))) mNext)
    (mRet (mAndV (mOp ltD (mCall [.S, .S] sd_end_of (mCons (mVar 1) (mCons (mVar 3) mNil))) (mCall [.S, .S] sd_end_of (mCons (mVar 1) (mCons (mVar 2) mNil)))) (mOp leD (mCall [.S, .S] sd_Ring_rank (mSelf C_Ring "rank" (mVar 0) (mCons (mVar 2) mNil))) (mCall [.S, .S] sd_Ring_rank (mSelf C_Ring "rank" (mVar 0) (mCons (mVar 3) mNil)))))))
set_option maxHeartbeats 4000000 in
theorem walk_is_barred {f : Addr} {fd : FuncData} (F : Fun K "is_barred" "is_barred" s_is_barred f fd) {C_Ring : Addr} {sd_Ring_rank sd_end_of sd_is_integer sd_is_between sd_Ring_size : DSp}
    {f_Ring_rank : Addr} {fd_Ring_rank : FuncData} (F_Ring_rank : FnG P w K mg base 3 f_Ring_rank fd_Ring_rank ["self", "place"] (spD K [.S, .S] sd_Ring_rank)) (b_Ring_rank : Binds K fd_Ring_rank ["self", "place"] [])
    {f_end_of : Addr} {fd_end_of : FuncData} (F_end_of : FnG P w K mg base 1 f_end_of fd_end_of ["outcome", "place"] (spD K [.S, .S] sd_end_of)) (g_end_of : mg "end_of" = some (.ref f_end_of)) (k_end_of : PySem.W.keepIn K (.ref f_end_of) = true) (b_end_of : Binds K fd_end_of ["outcome", "place"] [])
    {f_is_integer : Addr} {fd_is_integer : FuncData} (F_is_integer : FnG P w K mg base 1 f_is_integer fd_is_integer ["thing"] (spD K [.S] sd_is_integer)) (g_is_integer : mg "is_integer" = some (.ref f_is_integer)) (k_is_integer : PySem.W.keepIn K (.ref f_is_integer) = true) (b_is_integer : Binds K fd_is_integer ["thing"] [])
    {f_is_between : Addr} {fd_is_between : FuncData} (F_is_between : FnG P w K mg base 2 f_is_between fd_is_between ["thing", "least", "most"] (spD K [.S, .S, .S] sd_is_between)) (g_is_between : mg "is_between" = some (.ref f_is_between)) (k_is_between : PySem.W.keepIn K (.ref f_is_between) = true) (b_is_between : Binds K fd_is_between ["thing", "least", "most"] [])
    {f_Ring_size : Addr} {fd_Ring_size : FuncData} (F_Ring_size : FnG P w K mg base 1 f_Ring_size fd_Ring_size ["self"] (spD K [.S] sd_Ring_size)) (b_Ring_size : Binds K fd_Ring_size ["self"] []) (cl_Ring : Cls K C_Ring) (mt_Ring_rank : Meth K C_Ring "rank" f_Ring_rank) {p_Ring_size : Addr} (pr_Ring_size : PropOf K C_Ring "size" p_Ring_size f_Ring_size)
    {sd : DSp} (hv : ∀ ds Qd Ed, ds.length = 4 → sd ds Qd Ed → m_is_barred C_Ring sd_Ring_rank sd_end_of sd_is_integer sd_is_between sd_Ring_size (endsD [.S, .S, .S, .S] Qd) (startD ["ring", "outcome", "one", "other"] [.S, .S, .S, .S] ds)) :
    FnG P w K mg base 4 f fd ["ring", "outcome", "one", "other"] (spD K [.S, .S, .S, .S] sd) := by
  refine fn_dm (N := ["ring", "outcome", "one", "other"]) F sc_is_barred rfl hv fun cdv A outer s H0 vs E O H hg hr => ?_
  have sc := sc_is_barred
  unfold m_is_barred
  exact ⟨_, (ds_cons (ds_if (dw_pt (dw_or (dt_not (dt_val (de_call F_is_between hg (hr.mono (by decide)) (by rfl) g_is_between k_is_between b_is_between (da_cons (de_var 2 (pv 2)) (da_cons de_int (da_cons (de_sub (de_prop cl_Ring pr_Ring_size F_Ring_size hg (hr.mono (by decide)) b_Ring_size (de_var 0 (pv 0))) de_int) da_nil)))))) (dw_or (dt_not (dt_val (de_call F_is_integer hg (hr.mono (by decide)) (by rfl) g_is_integer k_is_integer b_is_integer (da_cons (de_var 3 (pv 3)) da_nil)))) (dw_or1 (dt_cmp op_le sim_le (de_var 3 (pv 3)) (de_var 2 (pv 2)) (nomark _)))))) (ds_one (ds_ret de_bl)) ds_nil)
    (ds_one (ds_ret (de_and (de_lt (de_call F_end_of hg (hr.mono (by decide)) (by rfl) g_end_of k_end_of b_end_of (da_cons (de_var 1 (pv 1)) (da_cons (de_var 3 (pv 3)) da_nil))) (de_call F_end_of hg (hr.mono (by decide)) (by rfl) g_end_of k_end_of b_end_of (da_cons (de_var 1 (pv 1)) (da_cons (de_var 2 (pv 2)) da_nil)))) (de_one (de_le (de_meth cl_Ring mt_Ring_rank F_Ring_rank hg (hr.mono (by decide)) b_Ring_rank (de_var 0 (pv 0)) (da_cons (de_var 2 (pv 2)) da_nil)) (de_meth cl_Ring mt_Ring_rank F_Ring_rank hg (hr.mono (by decide)) b_Ring_rank (de_var 0 (pv 0)) (da_cons (de_var 3 (pv 3)) da_nil))))))))⟩
/-- is_reason(ring, schedule, outcome, thing) -/
def m_is_reason (C_Ring : Addr) (sd_cost sd_carried sd_is_thread sd_Ring_size sd_is_barred : DSp) : DTS :=
    (mSeqS (mIfS (mOr (mNot (mTest (mIsi "tuple" (mVar 3)))) (mTest (mOp ninD (mCB lenD (mCons (mVar 3) mNil)) (mTup (mCons (mC (.int 2)) (mCons (mC (.int 3)) mNil)))))) (mRet (mC (.bl false))) mNext)
    (mSeqS (mIfS (mTest (mOp eqD (mCB lenD (mCons (mVar 3) mNil)) (mC (.int 3)))) (mRet (mAndV (mOp eqD (mOp ixD (mVar 3) (mC (.int 0))) (mC (.str "pass"))) (mCall [.S, .S, .S, .S] sd_is_barred (mCons (mVar 0) (mCons (mVar 2) (mCons (mOp ixD (mVar 3) (mC (.int 1))) (mCons (mOp ixD (mVar 3) (mC (.int 2))) mNil))))))) mNext)
    (mSeqS (mIfS (mOr (mTest (mOp neD (mOp ixD (mVar 3) (mC (.int 0))) (mC (.str "thread")))) (mNot (mTest (mCall [.S, .S, .S] sd_is_thread (mCons (mCall [.S] sd_Ring_size (mSelf1 C_Ring (mVar 0))) (mCons (mVar 1) (mCons (mOp ixD (mVar 3) (mC (.int 1))) mNil))))))) (mRet (mC (.bl false))) mNext)
    (mRet (mOp ltD (mCall [.S] sd_cost (mCons (mOp ixD (mVar 3) (mC (.int 1))) mNil)) (mCall [.S, .S, .S] sd_carried (mCons (mVar 2) (mCons (mOp ixD (mOp ixD (mVar 3) (mC (.int 1))) (mC (.int 0))) (mCons (mOp ixD (mOp ixD (mVar 3) (mC (.int 1))) (mUn negD (mC (.int 1)))) mNil)))))))))
set_option maxHeartbeats 4000000 in
theorem walk_is_reason {f : Addr} {fd : FuncData} (F : Fun K "is_reason" "is_reason" s_is_reason f fd) {C_Ring : Addr} {sd_cost sd_carried sd_is_thread sd_Ring_size sd_is_barred : DSp}
    {f_cost : Addr} {fd_cost : FuncData} (F_cost : FnG P w K mg base 1 f_cost fd_cost ["thread"] (spD K [.S] sd_cost)) (g_cost : mg "cost" = some (.ref f_cost)) (k_cost : PySem.W.keepIn K (.ref f_cost) = true) (b_cost : Binds K fd_cost ["thread"] [])
    {f_carried : Addr} {fd_carried : FuncData} (F_carried : FnG P w K mg base 1 f_carried fd_carried ["outcome", "begin", "end"] (spD K [.S, .S, .S] sd_carried)) (g_carried : mg "carried" = some (.ref f_carried)) (k_carried : PySem.W.keepIn K (.ref f_carried) = true) (b_carried : Binds K fd_carried ["outcome", "begin", "end"] [])
    {f_is_thread : Addr} {fd_is_thread : FuncData} (F_is_thread : FnG P w K mg base 2 f_is_thread fd_is_thread ["size", "schedule", "thing"] (spD K [.S, .S, .S] sd_is_thread)) (g_is_thread : mg "is_thread" = some (.ref f_is_thread)) (k_is_thread : PySem.W.keepIn K (.ref f_is_thread) = true) (b_is_thread : Binds K fd_is_thread ["size", "schedule", "thing"] [])
    {f_Ring_size : Addr} {fd_Ring_size : FuncData} (F_Ring_size : FnG P w K mg base 1 f_Ring_size fd_Ring_size ["self"] (spD K [.S] sd_Ring_size)) (b_Ring_size : Binds K fd_Ring_size ["self"] [])
    {f_is_barred : Addr} {fd_is_barred : FuncData} (F_is_barred : FnG P w K mg base 4 f_is_barred fd_is_barred ["ring", "outcome", "one", "other"] (spD K [.S, .S, .S, .S] sd_is_barred)) (g_is_barred : mg "is_barred" = some (.ref f_is_barred)) (k_is_barred : PySem.W.keepIn K (.ref f_is_barred) = true) (b_is_barred : Binds K fd_is_barred ["ring", "outcome", "one", "other"] []) {p_Ring_size : Addr} (pr_Ring_size : PropOf K C_Ring "size" p_Ring_size f_Ring_size) (cl_Ring : Cls K C_Ring) (z_len : mg "len" = none) (z_isinstance : mg "isinstance" = none) (z_tuple : mg "tuple" = none)
    {sd : DSp} (hv : ∀ ds Qd Ed, ds.length = 4 → sd ds Qd Ed → m_is_reason C_Ring sd_cost sd_carried sd_is_thread sd_Ring_size sd_is_barred (endsD [.S, .S, .S, .S] Qd) (startD ["ring", "schedule", "outcome", "thing"] [.S, .S, .S, .S] ds)) :
    FnG P w K mg base 5 f fd ["ring", "schedule", "outcome", "thing"] (spD K [.S, .S, .S, .S] sd) := by
  refine fn_dm (N := ["ring", "schedule", "outcome", "thing"]) F sc_is_reason rfl hv fun cdv A outer s H0 vs E O H hg hr => ?_
  have sc := sc_is_reason
  unfold m_is_reason
  exact ⟨_, (ds_cons (ds_if (dw_pt (dw_or (dt_not (dt_val (de_isi (T := "tuple") (by simp) (by rfl) z_isinstance (de_var 3 (pv 3)) (pe_bltn (by rfl) z_tuple (by decide +kernel) rfl)))) (dw_or1 (dt_nin (room65 hr) (de_len (by rfl) z_len (da_cons (de_var 3 (pv 3)) da_nil)) (de_tup (da_cons de_int (da_cons de_int da_nil))) (by rfl))))) (ds_one (ds_ret de_bl)) ds_nil)
    (ds_cons (ds_if (dt_eq hr.units (de_len (by rfl) z_len (da_cons (de_var 3 (pv 3)) da_nil)) de_int) (ds_one (ds_ret (de_and (de_eq hr.units (de_ix (de_var 3 (pv 3)) de_int) de_str) (de_one (de_call F_is_barred hg (hr.mono (by decide)) (by rfl) g_is_barred k_is_barred b_is_barred (da_cons (de_var 0 (pv 0)) (da_cons (de_var 2 (pv 2)) (da_cons (de_ix (de_var 3 (pv 3)) de_int) (da_cons (de_ix (de_var 3 (pv 3)) de_int) da_nil))))))))) ds_nil)
    (ds_cons (ds_if (dw_pt (dw_or (dt_ne hr.units (de_ix (de_var 3 (pv 3)) de_int) de_str) (dw_or1 (dt_not (dt_val (de_call F_is_thread hg (hr.mono (by decide)) (by rfl) g_is_thread k_is_thread b_is_thread (da_cons (de_prop cl_Ring pr_Ring_size F_Ring_size hg (hr.mono (by decide)) b_Ring_size (de_var 0 (pv 0))) (da_cons (de_var 1 (pv 1)) (da_cons (de_ix (de_var 3 (pv 3)) de_int) da_nil))))))))) (ds_one (ds_ret de_bl)) ds_nil)
    (ds_one (ds_ret (de_lt (de_call F_cost hg (hr.mono (by decide)) (by rfl) g_cost k_cost b_cost (da_cons (de_ix (de_var 3 (pv 3)) de_int) da_nil)) (de_call F_carried hg (hr.mono (by decide)) (by rfl) g_carried k_carried b_carried (da_cons (de_var 2 (pv 2)) (da_cons (de_ix (de_ix (de_var 3 (pv 3)) de_int) de_int) (da_cons (de_ix (de_ix (de_var 3 (pv 3)) de_int) (de_neg de_int)) da_nil))))))))))⟩
/-- _law_bag(_law_script) -/
def m_law_bag  : DTS :=
    (mRet (mLst (mCons (mC (.int 0)) (mCons (mC (.int 1234567891)) (mCons (mC (.int 0)) (mCons (mComp (mSeq (mSl slD (mVar 0) mNoP (mPart (mC (.int 63))))) (mgName 1) mYes (mCB absD (mCons (mVar 1) mNil)) [1]) mNil))))))
set_option maxHeartbeats 4000000 in
theorem walk_law_bag {f : Addr} {fd : FuncData} (F : Fun K "_law_bag" "_law_bag" s_law_bag f fd) (z_abs : mg "abs" = none)
    {sd : DSp} (hv : ∀ ds Qd Ed, ds.length = 1 → sd ds Qd Ed → m_law_bag (endsD [.S] Qd) (startD ["_law_script", "_law_cell"] [.S] ds)) :
    FnG P w K mg base 1 f fd ["_law_script"] (spD K [.S] sd) := by
  refine fn_dm (N := ["_law_script", "_law_cell"]) F sc_law_bag rfl hv fun cdv A outer s H0 vs E O H hg hr => ?_
  have sc := sc_law_bag
  unfold m_law_bag
  exact ⟨_, (ds_one (ds_ret (de_lst (da_cons de_int (da_cons de_int (da_cons de_int (da_cons (de_comp (own := [("_law_cell", 1)]) ⟨rfl, sc.nd, (di_seq (de_sl (de_var 0 (pv 0)) do_none (do_some de_int))), blkOk_by (own := [("_law_cell", 1)]) (N := ["_law_script", "_law_cell"]) (sc := defScope s_law_bag) (by decide +kernel), (fun _ _ _ _ _ _ => (dg_name 1 (pg_name (i := 1) sc.nd rfl (by first | exact Or.inl rfl | exact Or.inr rfl)))), (own_name (by simp)), mono_name, (fun _ _ _ _ _ _ => df_nil), (fun _ _ _ _ _ _ => (de_abs (by rfl) z_abs (da_cons (de_var 1 (pv 1)) da_nil)))⟩) da_nil)))))))⟩
/-- _law_take(_law_bag_here, _law_many) -/
def m_law_take  : DTS :=
    (mSeqS (mIfS (mTest (mOp eqD (mOp ixD (mVar 0) (mC (.int 0))) (mC (.int 0)))) (mSeqS (mSet 4 (mC (.int 0)))
    (mSeqS (mIfS (mTest (mOp ltD (mOp ixD (mVar 0) (mC (.int 2))) (mCB lenD (mCons (mOp ixD (mVar 0) (mC (.int 3))) mNil)))) (mSet 4 (mOp ixD (mOp ixD (mVar 0) (mC (.int 3))) (mOp ixD (mVar 0) (mC (.int 2))))) mNext)
    (mSeqS (mAugS (mVar 0) (mC (.int 2)) (mC (.int 1)) addI)
    (mSeqS (mIfS (mTest (mOp geD (mVar 4) (mC (.int 1000000000000000000)))) (mAsg (mVar 4) (mgSub (mVar 0) (mC (.int 0)) stD)) mNext)
    (mAsg (mOp modD (mOp addD (mOp addD (mOp mulD (mOp ixD (mVar 0) (mC (.int 1))) (mC (.int 48271))) (mOp modD (mVar 4) (mC (.int 2147483647)))) (mOp mulD (mC (.int 7919)) (mOp ixD (mVar 0) (mC (.int 2))))) (mC (.int 2147483647))) (mgSub (mVar 0) (mC (.int 1)) stD)))))) mNext)
    (mSeqS (mIfS (mTest (mOp gtD (mOp ixD (mVar 0) (mC (.int 0))) (mC (.int 0)))) (mSeqS (mSet 5 (mOp modD (mOp ixD (mVar 0) (mC (.int 0))) (mVar 1)))
    (mSeqS (mAsg (mOp fdivD (mOp ixD (mVar 0) (mC (.int 0))) (mVar 1)) (mgSub (mVar 0) (mC (.int 0)) stD))
    (mRet (mVar 5)))) mNext)
    (mSeqS (mSet 2 (mOp modD (mOp mulD (mOp addD (mOp ixD (mVar 0) (mC (.int 1))) (mC (.int 1))) (mC (.int 39373))) (mC (.int 1000000007))))
    (mSeqS (mSet 3 (mOp modD (mOp mulD (mOp modD (mOp mulD (mVar 2) (mVar 2)) (mC (.int 998244353))) (mC (.int 30011))) (mC (.int 998244353))))
    (mSeqS (mIfS (mTest (mOp gtD (mVar 1) (mC (.int 1000000)))) (mRet (mOp modD (mOp addD (mOp mulD (mVar 3) (mC (.int 1000000007))) (mVar 2)) (mVar 1))) mNext)
    (mRet (mOp modD (mOp fdivD (mVar 3) (mC (.int 7))) (mVar 1))))))))
set_option maxHeartbeats 4000000 in
theorem walk_law_take {f : Addr} {fd : FuncData} (F : Fun K "_law_take" "_law_take" s_law_take f fd) (z_len : mg "len" = none)
    {sd : DSp} (hv : ∀ ds Qd Ed, ds.length = 2 → sd ds Qd Ed → m_law_take (endsD [.M, .S] Qd) (startD ["_law_bag_here", "_law_many", "_law_first", "_law_second", "_law_cell", "_law_value"] [.M, .S] ds)) :
    FnG P w K mg base 1 f fd ["_law_bag_here", "_law_many"] (spD K [.M, .S] sd) := by
  refine fn_dm (N := ["_law_bag_here", "_law_many", "_law_first", "_law_second", "_law_cell", "_law_value"]) F sc_law_take rfl hv fun cdv A outer s H0 vs E O H hg hr => ?_
  have sc := sc_law_take
  unfold m_law_take
  exact ⟨_, (ds_cons (ds_if (dt_eq hr.units (de_ix (de_var 0 (pv 0)) de_int) de_int) (ds_cons (ds_set de_int (fun h => ps_set (i := 4) sc.nd rfl (by first | exact Or.inl rfl | exact Or.inr rfl) h))
    (ds_cons (ds_if (dt_cmp op_lt sim_lt (de_ix (de_var 0 (pv 0)) de_int) (de_len (by rfl) z_len (da_cons (de_ix (de_var 0 (pv 0)) de_int) da_nil)) (nomark _)) (ds_one (ds_set (de_ix (de_ix (de_var 0 (pv 0)) de_int) (de_ix (de_var 0 (pv 0)) de_int)) (fun h => ps_set (i := 4) sc.nd rfl (by first | exact Or.inl rfl | exact Or.inr rfl) h))) ds_nil)
    (ds_cons (ds_augSA (fun a b c => ps_augS a b get_listG c ip_add set_list) (de_var 0 (pv 0)) de_int de_int)
    (ds_cons (ds_if (dt_cmp op_ge sim_ge (de_var 4 (pv 4)) de_int (nomark _)) (ds_one (ds_asg (de_var 4 (pv 4)) (dg_sub (fun a b => pg_sub a b set_list) (de_var 0 (pv 0)) de_int))) ds_nil)
    (ds_one (ds_asg (de_mod (de_add (de_add (de_mul (de_ix (de_var 0 (pv 0)) de_int) de_int) (de_mod (de_var 4 (pv 4)) de_int)) (de_mul de_int (de_ix (de_var 0 (pv 0)) de_int))) de_int) (dg_sub (fun a b => pg_sub a b set_list) (de_var 0 (pv 0)) de_int))))))) ds_nil)
    (ds_cons (ds_if (dt_cmp op_gt sim_gt (de_ix (de_var 0 (pv 0)) de_int) de_int (nomark _)) (ds_cons (ds_set (de_mod (de_ix (de_var 0 (pv 0)) de_int) (de_var 1 (pv 1))) (fun h => ps_set (i := 5) sc.nd rfl (by first | exact Or.inl rfl | exact Or.inr rfl) h))
    (ds_cons (ds_asg (de_fdiv (de_ix (de_var 0 (pv 0)) de_int) (de_var 1 (pv 1))) (dg_sub (fun a b => pg_sub a b set_list) (de_var 0 (pv 0)) de_int))
    (ds_one (ds_ret (de_var 5 (pv 5)))))) ds_nil)
    (ds_cons (ds_set (de_mod (de_mul (de_add (de_ix (de_var 0 (pv 0)) de_int) de_int) de_int) de_int) (fun h => ps_set (i := 2) sc.nd rfl (by first | exact Or.inl rfl | exact Or.inr rfl) h))
    (ds_cons (ds_set (de_mod (de_mul (de_mod (de_mul (de_var 2 (pv 2)) (de_var 2 (pv 2))) de_int) de_int) de_int) (fun h => ps_set (i := 3) sc.nd rfl (by first | exact Or.inl rfl | exact Or.inr rfl) h))
    (ds_cons (ds_if (dt_cmp op_gt sim_gt (de_var 1 (pv 1)) de_int (nomark _)) (ds_one (ds_ret (de_mod (de_add (de_mul (de_var 3 (pv 3)) de_int) (de_var 2 (pv 2))) (de_var 1 (pv 1))))) ds_nil)
    (ds_one (ds_ret (de_mod (de_fdiv (de_var 3 (pv 3)) de_int) (de_var 1 (pv 1))))))))))⟩
/-- _law_some_size(_law_bag_here, _law_most) -/
def m_law_some_size (sd_law_take : DSp) : DTS :=
    (mRet (mOp addD (mC (.int 2)) (mCall [.M, .S] sd_law_take (mCons (mVar 0) (mCons (mOp ixD (mLst (mCons (mOp subD (mCB minD (mCons (mC (.int 4)) (mCons (mVar 1) mNil))) (mC (.int 1))) (mCons (mOp subD (mVar 1) (mC (.int 1))) mNil))) (mCall [.M, .S] sd_law_take (mCons (mVar 0) (mCons (mC (.int 2)) mNil)))) mNil)))))
set_option maxHeartbeats 4000000 in
theorem walk_law_some_size {f : Addr} {fd : FuncData} (F : Fun K "_law_some_size" "_law_some_size" s_law_some_size f fd) {sd_law_take : DSp}
    {f_law_take : Addr} {fd_law_take : FuncData} (F_law_take : FnG P w K mg base 1 f_law_take fd_law_take ["_law_bag_here", "_law_many"] (spD K [.M, .S] sd_law_take)) (g_law_take : mg "_law_take" = some (.ref f_law_take)) (k_law_take : PySem.W.keepIn K (.ref f_law_take) = true) (b_law_take : Binds K fd_law_take ["_law_bag_here", "_law_many"] []) (z_min : mg "min" = none)
    {sd : DSp} (hv : ∀ ds Qd Ed, ds.length = 2 → sd ds Qd Ed → m_law_some_size sd_law_take (endsD [.M, .S] Qd) (startD ["_law_bag_here", "_law_most"] [.M, .S] ds)) :
    FnG P w K mg base 2 f fd ["_law_bag_here", "_law_most"] (spD K [.M, .S] sd) := by
  refine fn_dm (N := ["_law_bag_here", "_law_most"]) F sc_law_some_size rfl hv fun cdv A outer s H0 vs E O H hg hr => ?_
  have sc := sc_law_some_size
  unfold m_law_some_size
  exact ⟨_, (ds_one (ds_ret (de_add de_int (de_call F_law_take hg (hr.mono (by decide)) (by rfl) g_law_take k_law_take b_law_take (da_cons (de_var 0 (pv 0)) (da_cons (de_ix (de_lst (da_cons (de_sub (de_min rfl (by rfl) z_min (da_cons de_int (da_cons (de_var 1 (pv 1)) da_nil))) de_int) (da_cons (de_sub (de_var 1 (pv 1)) de_int) da_nil))) (de_call F_law_take hg (hr.mono (by decide)) (by rfl) g_law_take k_law_take b_law_take (da_cons (de_var 0 (pv 0)) (da_cons de_int da_nil)))) da_nil))))))⟩
/-- _law_ranks(_law_bag_here, _law_size) -/
def m_law_ranks (sd_law_take : DSp) : DTS :=
    (mSeqS (mPar (mPCons (mCall [.M, .S] sd_law_take (mCons (mVar 0) (mCons (mC (.int 6)) mNil))) (mPCons (mLst mNil) mPNil)) (.sh 3 :: .ow 4 :: []))
    (mSeqS (mFor (mRng1 (mCons (mVar 1) mNil)) (mgName 2) (mSeqS (mPar (mPCons (mCall [.M, .S] sd_law_take (mCons (mVar 0) (mCons (mC (.int 3)) mNil))) (mPCons (mOp subD (mCall [.M, .S] sd_law_take (mCons (mVar 0) (mCons (mOp powD (mC (.int 10)) (mC (.int 12))) mNil))) (mOp mulD (mC (.int 5)) (mOp powD (mC (.int 10)) (mC (.int 11))))) mPNil)) (.sh 6 :: .sh 7 :: []))
    (mDrop (mMut appendD (mVar 4) (mCons (mOp ixD (mLst (mCons (mVar 6) (mCons (mOp subD (mOp mulD (mVar 6) (mC (.int 3))) (mC (.int 4))) (mCons (mVar 7) (mCons (mOp subD (mC (.int 0)) (mVar 2)) (mCons (mOp addD (mVar 2) (mVar 6)) (mCons (mOp subD (mOp powD (mC (.int 10)) (mC (.int 39))) (mOp mulD (mVar 2) (mVar 6))) mNil))))))) (mVar 3)) mNil)))))
    (mSeqS (mIfS (mAnd (mTest (mOp eqD (mVar 3) (mC (.int 0)))) (mTest (mOp eqD (mCall [.M, .S] sd_law_take (mCons (mVar 0) (mCons (mC (.int 2)) mNil))) (mC (.int 0))))) (mSetO 4 (mComp (mSeq (mVar 4)) (mgName 8) mYes (mCB intD (mCons (mOp gtD (mVar 8) (mC (.int 0))) mNil)) [8])) mNext)
    (mSeqS (mIfS (mTest (mOp gtD (mVar 3) (mC (.int 1)))) (mSeqS (mSet 5 (mCall [.M, .S] sd_law_take (mCons (mVar 0) (mCons (mVar 1) mNil))))
    (mSetO 4 (mOp addD (mSl slD (mVar 4) (mPart (mVar 5)) mNoP) (mSl slD (mVar 4) mNoP (mPart (mVar 5)))))) mNext)
    (mRet (mVar 4))))))
set_option maxHeartbeats 4000000 in
theorem walk_law_ranks {f : Addr} {fd : FuncData} (F : Fun K "_law_ranks" "_law_ranks" s_law_ranks f fd) {sd_law_take : DSp}
    {f_law_take : Addr} {fd_law_take : FuncData} (F_law_take : FnG P w K mg base 1 f_law_take fd_law_take ["_law_bag_here", "_law_many"] (spD K [.M, .S] sd_law_take)) (g_law_take : mg "_law_take" = some (.ref f_law_take)) (k_law_take : PySem.W.keepIn K (.ref f_law_take) = true) (b_law_take : Binds K fd_law_take ["_law_bag_here", "_law_many"] []) (z_int : mg "int" = none) (z_range : mg "range" = none)
    {sd : DSp} (hv : ∀ ds Qd Ed, ds.length = 2 → sd ds Qd Ed → m_law_ranks sd_law_take (endsD [.M, .S] Qd) (startD ["_law_bag_here", "_law_size", "_law_place", "_law_way", "_law_found", "_law_spot", "_law_few", "_law_great", "_law_rank"] [.M, .S] ds)) :
    FnG P w K mg base 2 f fd ["_law_bag_here", "_law_size"] (spD K [.M, .S] sd) := by
  refine fn_dm (N := ["_law_bag_here", "_law_size", "_law_place", "_law_way", "_law_found", "_law_spot", "_law_few", "_law_great", "_law_rank"]) F sc_law_ranks rfl hv fun cdv A outer s H0 vs E O H hg hr => ?_
  have sc := sc_law_ranks
  unfold m_law_ranks
  exact ⟨_, (ds_cons (ds_par2 (fun h => ps_par (i := 3) (j := 4) rfl sc.nd rfl rfl (by decide) rfl rfl h (by rfl)) (dp_cons (de_call F_law_take hg (hr.mono (by decide)) (by rfl) g_law_take k_law_take b_law_take (da_cons (de_var 0 (pv 0)) (da_cons de_int da_nil))) (fun _ => (dp_cons (de_lst da_nil) (fun _ => dp_nil)))) (sim_tsh (sim_tow sim_tnil 4) 3))
    (ds_cons (ds_for PassesOwn.never rfl (di_rng1 (by rfl) z_range (da_cons (de_var 1 (pv 1)) da_nil)) (fun _ => (dg_name 2 (pg_name (i := 2) sc.nd rfl (by first | exact Or.inl rfl | exact Or.inr rfl)))) (fun _ => (ds_cons (ds_par2 (fun h => ps_par (i := 6) (j := 7) rfl sc.nd rfl rfl (by decide) rfl rfl h (by rfl)) (dp_cons (de_call F_law_take hg (hr.mono (by decide)) (by rfl) g_law_take k_law_take b_law_take (da_cons (de_var 0 (pv 0)) (da_cons de_int da_nil))) (fun _ => (dp_cons (de_sub (de_call F_law_take hg (hr.mono (by decide)) (by rfl) g_law_take k_law_take b_law_take (da_cons (de_var 0 (pv 0)) (da_cons (de_pow de_int de_int) da_nil))) (de_mul de_int (de_pow de_int de_int))) (fun _ => dp_nil)))) (sim_tsh (sim_tsh sim_tnil 7) 6))
    (ds_one (ds_expr (de_append (fun x y => pe_bm PySem.F.plainAttrs_list PySem.F.slot_list_append PySem.F.type_list_append mt_append x y) (de_var 4 (pv 4)) (da_cons (de_ix (de_lst (da_cons (de_var 6 (pv 6)) (da_cons (de_sub (de_mul (de_var 6 (pv 6)) de_int) de_int) (da_cons (de_var 7 (pv 7)) (da_cons (de_sub de_int (de_var 2 (pv 2))) (da_cons (de_add (de_var 2 (pv 2)) (de_var 6 (pv 6))) (da_cons (de_sub (de_pow de_int de_int) (de_mul (de_var 2 (pv 2)) (de_var 6 (pv 6)))) da_nil))))))) (de_var 3 (pv 3))) da_nil)))))))
    (ds_cons (ds_if (dw_pt (dw_and (dt_eq hr.units (de_var 3 (pv 3)) de_int) (dw_and1 (dt_eq hr.units (de_call F_law_take hg (hr.mono (by decide)) (by rfl) g_law_take k_law_take b_law_take (da_cons (de_var 0 (pv 0)) (da_cons de_int da_nil))) de_int)))) (ds_one (ds_setCO (i := 4) (own := [("_law_rank", 8)]) ⟨rfl, sc.nd, (di_seq (de_var 4 (pv 4))), blkOk_by (own := [("_law_rank", 8)]) (N := ["_law_bag_here", "_law_size", "_law_place", "_law_way", "_law_found", "_law_spot", "_law_few", "_law_great", "_law_rank"]) (sc := defScope s_law_ranks) (by decide +kernel), (fun _ _ _ _ _ _ => (dg_name 8 (pg_name (i := 8) sc.nd rfl (by first | exact Or.inl rfl | exact Or.inr rfl)))), (own_name (by simp)), mono_name, (fun _ _ _ _ _ _ => df_nil), (fun _ _ _ _ _ _ => (de_intc (by rfl) z_int (da_cons (de_gt (de_var 8 (pv 8)) de_int) da_nil)))⟩ rfl rfl (sw_true rfl rfl rfl (by decide +kernel)))) ds_nil)
    (ds_cons (ds_if (dt_cmp op_gt sim_gt (de_var 3 (pv 3)) de_int (nomark _)) (ds_cons (ds_set (de_call F_law_take hg (hr.mono (by decide)) (by rfl) g_law_take k_law_take b_law_take (da_cons (de_var 0 (pv 0)) (da_cons (de_var 1 (pv 1)) da_nil))) (fun h => ps_set (i := 5) sc.nd rfl (by first | exact Or.inl rfl | exact Or.inr rfl) h))
    (ds_one (ds_setO (de_add (de_sl (de_var 4 (pv 4)) (do_some (de_var 5 (pv 5))) do_none) (de_sl (de_var 4 (pv 4)) do_none (do_some (de_var 5 (pv 5))))) (fun h => ps_set (i := 4) sc.nd rfl (by first | exact Or.inl rfl | exact Or.inr rfl) h)))) ds_nil)
    (ds_one (ds_ret (de_var 4 (pv 4))))))))⟩
/-- _law_schedule(_law_bag_here, _law_size, _law_most) -/
def m_law_schedule (sd_law_take : DSp) : DTS :=
    (mSeqS (mPar (mPCons (mCall [.M, .S] sd_law_take (mCons (mVar 0) (mCons (mOp addD (mVar 2) (mC (.int 1))) mNil))) (mPCons (mCall [.M, .S] sd_law_take (mCons (mVar 0) (mCons (mC (.int 6)) mNil))) (mPCons (mCall [.M, .S] sd_law_take (mCons (mVar 0) (mCons (mVar 1) mNil))) mPNil))) (.sh 6 :: .sh 7 :: .sh 8 :: []))
    (mSeqS (mSet 3 (mLst (mCons (mCall [.M, .S] sd_law_take (mCons (mVar 0) (mCons (mVar 1) mNil))) (mCons (mCall [.M, .S] sd_law_take (mCons (mVar 0) (mCons (mVar 1) mNil))) mNil))))
    (mSeqS (mSetO 4 (mLst mNil))
    (mSeqS (mFor (mRng1 (mCons (mVar 6) mNil)) (mgName 5) (mSeqS (mSet 9 (mOp ixD (mLst (mCons (mCall [.M, .S] sd_law_take (mCons (mVar 0) (mCons (mVar 1) mNil))) (mCons (mOp ixD (mVar 3) (mOp modD (mVar 5) (mC (.int 2)))) (mCons (mOp modD (mOp addD (mVar 8) (mVar 5)) (mVar 1)) (mCons (mOp modD (mOp subD (mVar 8) (mVar 5)) (mVar 1)) mNil))))) (mCB minD (mCons (mVar 7) (mCons (mC (.int 3)) mNil)))))
    (mSeqS (mIfS (mTest (mOp eqD (mVar 7) (mC (.int 4)))) (mSet 9 (mOp modD (mCB absD (mCons (mOp addD (mOp subD (mOp modD (mOp addD (mVar 8) (mVar 5)) (mOp subD (mOp mulD (mC (.int 2)) (mVar 1)) (mC (.int 2)))) (mVar 1)) (mC (.int 1))) mNil)) (mVar 1))) mNext)
    (mSeqS (mIfS (mTest (mOp eqD (mVar 7) (mC (.int 5)))) (mSet 9 (mCall [.M, .S] sd_law_take (mCons (mVar 0) (mCons (mCB maxD (mCons (mC (.int 1)) (mCons (mOp subD (mVar 1) (mC (.int 1))) mNil))) mNil)))) mNext)
    (mDrop (mMut appendD (mVar 4) (mCons (mVar 9) mNil)))))))
    (mRet (mVar 4))))))
set_option maxHeartbeats 4000000 in
theorem walk_law_schedule {f : Addr} {fd : FuncData} (F : Fun K "_law_schedule" "_law_schedule" s_law_schedule f fd) {sd_law_take : DSp}
    {f_law_take : Addr} {fd_law_take : FuncData} (F_law_take : FnG P w K mg base 1 f_law_take fd_law_take ["_law_bag_here", "_law_many"] (spD K [.M, .S] sd_law_take)) (g_law_take : mg "_law_take" = some (.ref f_law_take)) (k_law_take : PySem.W.keepIn K (.ref f_law_take) = true) (b_law_take : Binds K fd_law_take ["_law_bag_here", "_law_many"] []) (z_range : mg "range" = none) (z_max : mg "max" = none) (z_abs : mg "abs" = none) (z_min : mg "min" = none)
    {sd : DSp} (hv : ∀ ds Qd Ed, ds.length = 3 → sd ds Qd Ed → m_law_schedule sd_law_take (endsD [.M, .S, .S] Qd) (startD ["_law_bag_here", "_law_size", "_law_most", "_law_few", "_law_found", "_law_k", "_law_many", "_law_way", "_law_begin", "_law_gap"] [.M, .S, .S] ds)) :
    FnG P w K mg base 2 f fd ["_law_bag_here", "_law_size", "_law_most"] (spD K [.M, .S, .S] sd) := by
  refine fn_dm (N := ["_law_bag_here", "_law_size", "_law_most", "_law_few", "_law_found", "_law_k", "_law_many", "_law_way", "_law_begin", "_law_gap"]) F sc_law_schedule rfl hv fun cdv A outer s H0 vs E O H hg hr => ?_
  have sc := sc_law_schedule
  unfold m_law_schedule
  exact ⟨_, (ds_cons (ds_par3 (fun h => ps_par3 (i := 6) (j := 7) (l := 8) rfl sc.nd rfl rfl rfl (by decide) (by decide) (by decide) rfl rfl rfl h (by rfl)) (dp_cons (de_call F_law_take hg (hr.mono (by decide)) (by rfl) g_law_take k_law_take b_law_take (da_cons (de_var 0 (pv 0)) (da_cons (de_add (de_var 2 (pv 2)) de_int) da_nil))) (fun _ => (dp_cons (de_call F_law_take hg (hr.mono (by decide)) (by rfl) g_law_take k_law_take b_law_take (da_cons (de_var 0 (pv 0)) (da_cons de_int da_nil))) (fun _ => (dp_cons (de_call F_law_take hg (hr.mono (by decide)) (by rfl) g_law_take k_law_take b_law_take (da_cons (de_var 0 (pv 0)) (da_cons (de_var 1 (pv 1)) da_nil))) (fun _ => dp_nil)))))) (sim_tsh (sim_tsh (sim_tsh sim_tnil 8) 7) 6))
    (ds_cons (ds_set (de_lst (da_cons (de_call F_law_take hg (hr.mono (by decide)) (by rfl) g_law_take k_law_take b_law_take (da_cons (de_var 0 (pv 0)) (da_cons (de_var 1 (pv 1)) da_nil))) (da_cons (de_call F_law_take hg (hr.mono (by decide)) (by rfl) g_law_take k_law_take b_law_take (da_cons (de_var 0 (pv 0)) (da_cons (de_var 1 (pv 1)) da_nil))) da_nil))) (fun h => ps_set (i := 3) sc.nd rfl (by first | exact Or.inl rfl | exact Or.inr rfl) h))
    (ds_cons (ds_setO (de_lst da_nil) (fun h => ps_set (i := 4) sc.nd rfl (by first | exact Or.inl rfl | exact Or.inr rfl) h))
    (ds_cons (ds_for PassesOwn.never rfl (di_rng1 (by rfl) z_range (da_cons (de_var 6 (pv 6)) da_nil)) (fun _ => (dg_name 5 (pg_name (i := 5) sc.nd rfl (by first | exact Or.inl rfl | exact Or.inr rfl)))) (fun _ => (ds_cons (ds_set (de_ix (de_lst (da_cons (de_call F_law_take hg (hr.mono (by decide)) (by rfl) g_law_take k_law_take b_law_take (da_cons (de_var 0 (pv 0)) (da_cons (de_var 1 (pv 1)) da_nil))) (da_cons (de_ix (de_var 3 (pv 3)) (de_mod (de_var 5 (pv 5)) de_int)) (da_cons (de_mod (de_add (de_var 8 (pv 8)) (de_var 5 (pv 5))) (de_var 1 (pv 1))) (da_cons (de_mod (de_sub (de_var 8 (pv 8)) (de_var 5 (pv 5))) (de_var 1 (pv 1))) da_nil))))) (de_min rfl (by rfl) z_min (da_cons (de_var 7 (pv 7)) (da_cons de_int da_nil)))) (fun h => ps_set (i := 9) sc.nd rfl (by first | exact Or.inl rfl | exact Or.inr rfl) h))
    (ds_cons (ds_if (dt_eq hr.units (de_var 7 (pv 7)) de_int) (ds_one (ds_set (de_mod (de_abs (by rfl) z_abs (da_cons (de_add (de_sub (de_mod (de_add (de_var 8 (pv 8)) (de_var 5 (pv 5))) (de_sub (de_mul de_int (de_var 1 (pv 1))) de_int)) (de_var 1 (pv 1))) de_int) da_nil)) (de_var 1 (pv 1))) (fun h => ps_set (i := 9) sc.nd rfl (by first | exact Or.inl rfl | exact Or.inr rfl) h))) ds_nil)
    (ds_cons (ds_if (dt_eq hr.units (de_var 7 (pv 7)) de_int) (ds_one (ds_set (de_call F_law_take hg (hr.mono (by decide)) (by rfl) g_law_take k_law_take b_law_take (da_cons (de_var 0 (pv 0)) (da_cons (de_max rfl (by rfl) z_max (da_cons de_int (da_cons (de_sub (de_var 1 (pv 1)) de_int) da_nil))) da_nil))) (fun h => ps_set (i := 9) sc.nd rfl (by first | exact Or.inl rfl | exact Or.inr rfl) h))) ds_nil)
    (ds_one (ds_expr (de_append (fun x y => pe_bm PySem.F.plainAttrs_list PySem.F.slot_list_append PySem.F.type_list_append mt_append x y) (de_var 4 (pv 4)) (da_cons (de_var 9 (pv 9)) da_nil)))))))))
    (ds_one (ds_ret (de_var 4 (pv 4))))))))⟩
/-- _law_standing(_law_size) -/
def m_law_standing  : DTS :=
    (mRet (mLRg (mRg1 (mVar 0))))
set_option maxHeartbeats 4000000 in
theorem walk_law_standing {f : Addr} {fd : FuncData} (F : Fun K "_law_standing" "_law_standing" s_law_standing f fd) (z_list : mg "list" = none) (z_range : mg "range" = none)
    {sd : DSp} (hv : ∀ ds Qd Ed, ds.length = 1 → sd ds Qd Ed → m_law_standing (endsD [.S] Qd) (startD ["_law_size"] [.S] ds)) :
    FnG P w K mg base 1 f fd ["_law_size"] (spD K [.S] sd) := by
  refine fn_dm (N := ["_law_size"]) F sc_law_standing rfl hv fun cdv A outer s H0 vs E O H hg hr => ?_
  have sc := sc_law_standing
  unfold m_law_standing
  exact ⟨_, (ds_one (ds_ret (de_listRg rfl (by rfl) z_list (dr_1 (by rfl) z_range (de_var 0 (pv 0))))))⟩
/-- _law_called(_law_ranks_here, _law_there, _law_gap) -/
def m_law_called  : DTS :=
    (mSeqS (mSet 3 (mCB lenD (mCons (mVar 0) mNil)))
    (mSeqS (mIfS (mTest (mOp ltD (mVar 2) (mOp subD (mVar 3) (mC (.int 1))))) (mSeqS (mPar (mPCons (mOp ixD (mVar 1) (mVar 2)) (mPCons (mOp ixD (mVar 1) (mOp addD (mVar 2) (mC (.int 1)))) mPNil)) (.sh 4 :: .sh 5 :: []))
    (mSeqS (mIfS (mTest (mOp gtD (mOp ixD (mVar 0) (mOp modD (mVar 4) (mVar 3))) (mOp ixD (mVar 0) (mOp modD (mVar 5) (mVar 3))))) (mSeqS (mPar3 2 (mPCons (mVar 5) (mPCons (mVar 4) mPNil)) (.sub (mVar 1) (mVar 2) :: .sub (mVar 1) (mOp addD (mVar 2) (mC (.int 1))) :: []))
    (mRet (mC (.bl true)))) mNext)
    (mRet (mC (.bl false))))) mNext)
    (mSeqS (mPar (mPCons (mOp ixD (mVar 1) (mOp subD (mVar 3) (mC (.int 1)))) (mPCons (mOp addD (mOp ixD (mVar 1) (mC (.int 0))) (mVar 3)) mPNil)) (.sh 4 :: .sh 5 :: []))
    (mSeqS (mIfS (mTest (mOp gtD (mOp ixD (mVar 0) (mOp modD (mVar 4) (mVar 3))) (mOp ixD (mVar 0) (mOp modD (mVar 5) (mVar 3))))) (mSeqS (mPar3 2 (mPCons (mVar 5) (mPCons (mOp subD (mVar 4) (mVar 3)) mPNil)) (.sub (mVar 1) (mOp subD (mVar 3) (mC (.int 1))) :: .sub (mVar 1) (mC (.int 0)) :: []))
    (mRet (mC (.bl true)))) mNext)
    (mRet (mC (.bl false)))))))
set_option maxHeartbeats 4000000 in
theorem walk_law_called {f : Addr} {fd : FuncData} (F : Fun K "_law_called" "_law_called" s_law_called f fd) (z_len : mg "len" = none)
    {sd : DSp} (hv : ∀ ds Qd Ed, ds.length = 3 → sd ds Qd Ed → m_law_called (endsD [.S, .M, .S] Qd) (startD ["_law_ranks_here", "_law_there", "_law_gap", "_law_size", "_law_first", "_law_second"] [.S, .M, .S] ds)) :
    FnG P w K mg base 1 f fd ["_law_ranks_here", "_law_there", "_law_gap"] (spD K [.S, .M, .S] sd) := by
  refine fn_dm (N := ["_law_ranks_here", "_law_there", "_law_gap", "_law_size", "_law_first", "_law_second"]) F sc_law_called rfl hv fun cdv A outer s H0 vs E O H hg hr => ?_
  have sc := sc_law_called
  unfold m_law_called
  exact ⟨_, (ds_cons (ds_set (de_len (by rfl) z_len (da_cons (de_var 0 (pv 0)) da_nil)) (fun h => ps_set (i := 3) sc.nd rfl (by first | exact Or.inl rfl | exact Or.inr rfl) h))
    (ds_cons (ds_if (dt_cmp op_lt sim_lt (de_var 2 (pv 2)) (de_sub (de_var 3 (pv 3)) de_int) (nomark _)) (ds_cons (ds_par2 (fun h => ps_par (i := 4) (j := 5) rfl sc.nd rfl rfl (by decide) rfl rfl h (by rfl)) (dp_cons (de_ix (de_var 1 (pv 1)) (de_var 2 (pv 2))) (fun _ => (dp_cons (de_ix (de_var 1 (pv 1)) (de_add (de_var 2 (pv 2)) de_int)) (fun _ => dp_nil)))) (sim_tsh (sim_tsh sim_tnil 5) 4))
    (ds_cons (ds_if (dt_cmp op_gt sim_gt (de_ix (de_var 0 (pv 0)) (de_mod (de_var 4 (pv 4)) (de_var 3 (pv 3)))) (de_ix (de_var 0 (pv 0)) (de_mod (de_var 5 (pv 5)) (de_var 3 (pv 3)))) (nomark _)) (ds_cons (ds_asgT (n := 2) (dp_cons (de_var 5 (pv 5)) (fun _ => (dp_cons (de_var 4 (pv 4)) (fun _ => dp_nil)))) (dts_sub (fun a b => pg_sub a b set_list) (fun _ => (de_var 1 (pv 1))) (fun _ => (de_var 2 (pv 2))) (dts_sub (fun a b => pg_sub a b set_list) (fun _ => (de_var 1 (pv 1))) (fun _ => (de_add (de_var 2 (pv 2)) de_int)) dts_nil)) rfl (by decide))
    (ds_one (ds_ret de_bl))) ds_nil)
    (ds_one (ds_ret de_bl)))) ds_nil)
    (ds_cons (ds_par2 (fun h => ps_par (i := 4) (j := 5) rfl sc.nd rfl rfl (by decide) rfl rfl h (by rfl)) (dp_cons (de_ix (de_var 1 (pv 1)) (de_sub (de_var 3 (pv 3)) de_int)) (fun _ => (dp_cons (de_add (de_ix (de_var 1 (pv 1)) de_int) (de_var 3 (pv 3))) (fun _ => dp_nil)))) (sim_tsh (sim_tsh sim_tnil 5) 4))
    (ds_cons (ds_if (dt_cmp op_gt sim_gt (de_ix (de_var 0 (pv 0)) (de_mod (de_var 4 (pv 4)) (de_var 3 (pv 3)))) (de_ix (de_var 0 (pv 0)) (de_mod (de_var 5 (pv 5)) (de_var 3 (pv 3)))) (nomark _)) (ds_cons (ds_asgT (n := 2) (dp_cons (de_var 5 (pv 5)) (fun _ => (dp_cons (de_sub (de_var 4 (pv 4)) (de_var 3 (pv 3))) (fun _ => dp_nil)))) (dts_sub (fun a b => pg_sub a b set_list) (fun _ => (de_var 1 (pv 1))) (fun _ => (de_sub (de_var 3 (pv 3)) de_int)) (dts_sub (fun a b => pg_sub a b set_list) (fun _ => (de_var 1 (pv 1))) (fun _ => de_int) dts_nil)) rfl (by decide))
    (ds_one (ds_ret de_bl))) ds_nil)
    (ds_one (ds_ret de_bl))))))⟩
/-- _law_run(_law_ranks_here, _law_schedule_here) -/
def m_law_run (sd_law_called sd_law_standing : DSp) : DTS :=
    (mSeqS (mPar (mPCons (mCall [.S] sd_law_standing (mCons (mCB lenD (mCons (mVar 0) mNil)) mNil)) (mPCons (mLst mNil) mPNil)) (.ow 2 :: .ow 3 :: []))
    (mSeqS (mFor (mEnum (mVar 1)) (mgTup 2 (mgCons (mgName 4) (mgCons (mgName 5) mgNil))) (mIfS (mTest (mCall [.S, .M, .S] sd_law_called (mCons (mVar 0) (mCons (mVar 2) (mCons (mVar 5) mNil))))) (mDrop (mMut appendD (mVar 3) (mCons (mVar 4) mNil))) mNext))
    (mFrz 2 (mFrz 3 (mRet (mTup (mCons (mVar 2) (mCons (mVar 3) mNil))))))))
set_option maxHeartbeats 4000000 in
theorem walk_law_run {f : Addr} {fd : FuncData} (F : Fun K "_law_run" "_law_run" s_law_run f fd) {sd_law_called sd_law_standing : DSp}
    {f_law_called : Addr} {fd_law_called : FuncData} (F_law_called : FnG P w K mg base 1 f_law_called fd_law_called ["_law_ranks_here", "_law_there", "_law_gap"] (spD K [.S, .M, .S] sd_law_called)) (g_law_called : mg "_law_called" = some (.ref f_law_called)) (k_law_called : PySem.W.keepIn K (.ref f_law_called) = true) (b_law_called : Binds K fd_law_called ["_law_ranks_here", "_law_there", "_law_gap"] [])
    {f_law_standing : Addr} {fd_law_standing : FuncData} (F_law_standing : FnG P w K mg base 1 f_law_standing fd_law_standing ["_law_size"] (spD K [.S] sd_law_standing)) (g_law_standing : mg "_law_standing" = some (.ref f_law_standing)) (k_law_standing : PySem.W.keepIn K (.ref f_law_standing) = true) (b_law_standing : Binds K fd_law_standing ["_law_size"] []) (z_enumerate : mg "enumerate" = none) (z_len : mg "len" = none)
    {sd : DSp} (hv : ∀ ds Qd Ed, ds.length = 2 → sd ds Qd Ed → m_law_run sd_law_called sd_law_standing (endsD [.S, .S] Qd) (startD ["_law_ranks_here", "_law_schedule_here", "_law_there", "_law_found", "_law_at", "_law_gap"] [.S, .S] ds)) :
    FnG P w K mg base 2 f fd ["_law_ranks_here", "_law_schedule_here"] (spD K [.S, .S] sd) := by
  refine fn_dm (N := ["_law_ranks_here", "_law_schedule_here", "_law_there", "_law_found", "_law_at", "_law_gap"]) F sc_law_run rfl hv fun cdv A outer s H0 vs E O H hg hr => ?_
  have sc := sc_law_run
  unfold m_law_run
  exact ⟨_, (ds_cons (ds_par2 (fun h => ps_par (i := 2) (j := 3) rfl sc.nd rfl rfl (by decide) rfl rfl h (by rfl)) (dp_cons (de_call F_law_standing hg (hr.mono (by decide)) (by rfl) g_law_standing k_law_standing b_law_standing (da_cons (de_len (by rfl) z_len (da_cons (de_var 0 (pv 0)) da_nil)) da_nil)) (fun _ => (dp_cons (de_lst da_nil) (fun _ => dp_nil)))) (sim_tow (sim_tow sim_tnil 3) 2))
    (ds_cons (ds_for PassesOwn.never rfl (di_enum (by rfl) z_enumerate (de_var 1 (pv 1))) (fun _ => (dg_tup rfl (dgs_cons (dg_name 4 (pg_name (i := 4) sc.nd rfl (by first | exact Or.inl rfl | exact Or.inr rfl))) (dgs_cons (dg_name 5 (pg_name (i := 5) sc.nd rfl (by first | exact Or.inl rfl | exact Or.inr rfl))) dgs_nil)))) (fun _ => (ds_one (ds_if (dt_val (de_call F_law_called hg (hr.mono (by decide)) (by rfl) g_law_called k_law_called b_law_called (da_cons (de_var 0 (pv 0)) (da_cons (de_var 2 (pv 2)) (da_cons (de_var 5 (pv 5)) da_nil))))) (ds_one (ds_expr (de_append (fun x y => pe_bm PySem.F.plainAttrs_list PySem.F.slot_list_append PySem.F.type_list_append mt_append x y) (de_var 3 (pv 3)) (da_cons (de_var 4 (pv 4)) da_nil)))) ds_nil))))
    (dss_frz 2 (dss_frz 3 (ds_one (ds_ret (de_tup (da_cons (de_var 2 (pv 2)) (da_cons (de_var 3 (pv 3)) da_nil)))))))))⟩
/-- _law_ended(_law_there) -/
def m_law_ended  : DTS :=
    (mSeqS (mSet 1 (mCB lenD (mCons (mVar 0) mNil)))
    (mSeqS (mSetO 2 (mOp mulD (mLst (mCons (mC (.int 0)) mNil)) (mVar 1)))
    (mSeqS (mFor (mRng1 (mCons (mVar 1) mNil)) (mgName 3) (mSeqS (mSet 4 (mOp modD (mOp ixD (mVar 0) (mVar 3)) (mVar 1)))
    (mAsg (mOp addD (mOp subD (mVar 3) (mOp ixD (mVar 0) (mVar 3))) (mVar 4)) (mgSub (mVar 2) (mVar 4) stD))))
    (mRet (mCB tupleD (mCons (mVar 2) mNil))))))
set_option maxHeartbeats 4000000 in
theorem walk_law_ended {f : Addr} {fd : FuncData} (F : Fun K "_law_ended" "_law_ended" s_law_ended f fd) (z_tuple : mg "tuple" = none) (z_range : mg "range" = none) (z_len : mg "len" = none)
    {sd : DSp} (hv : ∀ ds Qd Ed, ds.length = 1 → sd ds Qd Ed → m_law_ended (endsD [.S] Qd) (startD ["_law_there", "_law_size", "_law_found", "_law_place", "_law_person"] [.S] ds)) :
    FnG P w K mg base 1 f fd ["_law_there"] (spD K [.S] sd) := by
  refine fn_dm (N := ["_law_there", "_law_size", "_law_found", "_law_place", "_law_person"]) F sc_law_ended rfl hv fun cdv A outer s H0 vs E O H hg hr => ?_
  have sc := sc_law_ended
  unfold m_law_ended
  exact ⟨_, (ds_cons (ds_set (de_len (by rfl) z_len (da_cons (de_var 0 (pv 0)) da_nil)) (fun h => ps_set (i := 1) sc.nd rfl (by first | exact Or.inl rfl | exact Or.inr rfl) h))
    (ds_cons (ds_setO (de_mul (de_lst (da_cons de_int da_nil)) (de_var 1 (pv 1))) (fun h => ps_set (i := 2) sc.nd rfl (by first | exact Or.inl rfl | exact Or.inr rfl) h))
    (ds_cons (ds_for PassesOwn.never rfl (di_rng1 (by rfl) z_range (da_cons (de_var 1 (pv 1)) da_nil)) (fun _ => (dg_name 3 (pg_name (i := 3) sc.nd rfl (by first | exact Or.inl rfl | exact Or.inr rfl)))) (fun _ => (ds_cons (ds_set (de_mod (de_ix (de_var 0 (pv 0)) (de_var 3 (pv 3))) (de_var 1 (pv 1))) (fun h => ps_set (i := 4) sc.nd rfl (by first | exact Or.inl rfl | exact Or.inr rfl) h))
    (ds_one (ds_asg (de_add (de_sub (de_var 3 (pv 3)) (de_ix (de_var 0 (pv 0)) (de_var 3 (pv 3)))) (de_var 4 (pv 4))) (dg_sub (fun a b => pg_sub a b set_list) (de_var 2 (pv 2)) (de_var 4 (pv 4))))))))
    (ds_one (ds_ret (de_tuple (by rfl) z_tuple (da_cons (de_var 2 (pv 2)) da_nil)))))))⟩
/-- _law_carried(_law_outcome, _law_begin, _law_end) -/
def m_law_carried  : DTS :=
    (mSeqS (mPar (mPCons (mCB lenD (mCons (mVar 0) mNil)) (mPCons (mC (.int 0)) mPNil)) (.sh 4 :: .sh 5 :: []))
    (mSeqS (mFor (mRng1 (mCons (mVar 4) mNil)) (mgName 3) (mSeqS (mSet 6 (mOp fdivD (mOp subD (mVar 2) (mOp ixD (mVar 0) (mVar 3))) (mVar 4)))
    (mAug 5 (mCB maxD (mCons (mC (.int 0)) (mCons (mOp subD (mOp fdivD (mOp subD (mVar 1) (mVar 3)) (mVar 4)) (mVar 6)) mNil))) addI)))
    (mRet (mVar 5))))
set_option maxHeartbeats 4000000 in
theorem walk_law_carried {f : Addr} {fd : FuncData} (F : Fun K "_law_carried" "_law_carried" s_law_carried f fd) (z_range : mg "range" = none) (z_max : mg "max" = none) (z_len : mg "len" = none)
    {sd : DSp} (hv : ∀ ds Qd Ed, ds.length = 3 → sd ds Qd Ed → m_law_carried (endsD [.S, .S, .S] Qd) (startD ["_law_outcome", "_law_begin", "_law_end", "_law_person", "_law_size", "_law_total", "_law_ahead"] [.S, .S, .S] ds)) :
    FnG P w K mg base 1 f fd ["_law_outcome", "_law_begin", "_law_end"] (spD K [.S, .S, .S] sd) := by
  refine fn_dm (N := ["_law_outcome", "_law_begin", "_law_end", "_law_person", "_law_size", "_law_total", "_law_ahead"]) F sc_law_carried rfl hv fun cdv A outer s H0 vs E O H hg hr => ?_
  have sc := sc_law_carried
  unfold m_law_carried
  exact ⟨_, (ds_cons (ds_par2 (fun h => ps_par (i := 4) (j := 5) rfl sc.nd rfl rfl (by decide) rfl rfl h (by rfl)) (dp_cons (de_len (by rfl) z_len (da_cons (de_var 0 (pv 0)) da_nil)) (fun _ => (dp_cons de_int (fun _ => dp_nil)))) (sim_tsh (sim_tsh sim_tnil 5) 4))
    (ds_cons (ds_for PassesOwn.never rfl (di_rng1 (by rfl) z_range (da_cons (de_var 4 (pv 4)) da_nil)) (fun _ => (dg_name 3 (pg_name (i := 3) sc.nd rfl (by first | exact Or.inl rfl | exact Or.inr rfl)))) (fun _ => (ds_cons (ds_set (de_fdiv (de_sub (de_var 2 (pv 2)) (de_ix (de_var 0 (pv 0)) (de_var 3 (pv 3)))) (de_var 4 (pv 4))) (fun h => ps_set (i := 6) sc.nd rfl (by first | exact Or.inl rfl | exact Or.inr rfl) h))
    (ds_one (ds_augAdd (de_max rfl (by rfl) z_max (da_cons de_int (da_cons (de_sub (de_fdiv (de_sub (de_var 1 (pv 1)) (de_var 3 (pv 3))) (de_var 4 (pv 4))) (de_var 6 (pv 6))) da_nil))) (fun h => ps_aug (i := 5) sc.nd rfl (by first | exact Or.inl rfl | exact Or.inr rfl) h ip_add))))))
    (ds_one (ds_ret (de_var 5 (pv 5))))))⟩
/-- _law_mixed(_law_bag_here, _law_things) -/
def m_law_mixed (sd_law_take : DSp) : DTS :=
    (mSeqS (mSetO 2 (mLst mNil))
    (mSeqS (mFor (mSeq (mVar 1)) (mgName 3) (mDrop (mMut insertD (mVar 2) (mCons (mCall [.M, .S] sd_law_take (mCons (mVar 0) (mCons (mOp addD (mCB lenD (mCons (mVar 2) mNil)) (mC (.int 1))) mNil))) (mCons (mVar 3) mNil)))))
    (mRet (mVar 2))))
set_option maxHeartbeats 4000000 in
theorem walk_law_mixed {f : Addr} {fd : FuncData} (F : Fun K "_law_mixed" "_law_mixed" s_law_mixed f fd) {sd_law_take : DSp}
    {f_law_take : Addr} {fd_law_take : FuncData} (F_law_take : FnG P w K mg base 1 f_law_take fd_law_take ["_law_bag_here", "_law_many"] (spD K [.M, .S] sd_law_take)) (g_law_take : mg "_law_take" = some (.ref f_law_take)) (k_law_take : PySem.W.keepIn K (.ref f_law_take) = true) (b_law_take : Binds K fd_law_take ["_law_bag_here", "_law_many"] []) (z_len : mg "len" = none)
    {sd : DSp} (hv : ∀ ds Qd Ed, ds.length = 2 → sd ds Qd Ed → m_law_mixed sd_law_take (endsD [.M, .S] Qd) (startD ["_law_bag_here", "_law_things", "_law_found", "_law_thing"] [.M, .S] ds)) :
    FnG P w K mg base 2 f fd ["_law_bag_here", "_law_things"] (spD K [.M, .S] sd) := by
  refine fn_dm (N := ["_law_bag_here", "_law_things", "_law_found", "_law_thing"]) F sc_law_mixed rfl hv fun cdv A outer s H0 vs E O H hg hr => ?_
  have sc := sc_law_mixed
  unfold m_law_mixed
  exact ⟨_, (ds_cons (ds_setO (de_lst da_nil) (fun h => ps_set (i := 2) sc.nd rfl (by first | exact Or.inl rfl | exact Or.inr rfl) h))
    (ds_cons (ds_for PassesOwn.never rfl (di_seq (de_var 1 (pv 1))) (fun _ => (dg_name 3 (pg_name (i := 3) sc.nd rfl (by first | exact Or.inl rfl | exact Or.inr rfl)))) (fun _ => (ds_one (ds_expr (de_insert (fun x y => pe_bm PySem.F.plainAttrs_list PySem.F.slot_list_insert PySem.F.type_list_insert mt_insert x y) (de_var 2 (pv 2)) (da_cons (de_call F_law_take hg (hr.mono (by decide)) (by rfl) g_law_take k_law_take b_law_take (da_cons (de_var 0 (pv 0)) (da_cons (de_add (de_len (by rfl) z_len (da_cons (de_var 2 (pv 2)) da_nil)) de_int) da_nil))) (da_cons (de_var 3 (pv 3)) da_nil)))))))
    (ds_one (ds_ret (de_var 2 (pv 2))))))⟩
/-- _law_any_outcome(_law_bag_here, _law_size, _law_laps) -/
def m_law_any_outcome (sd_law_take sd_law_mixed : DSp) : DTS :=
    (mSeqS (mSetO 3 (mCall [.M, .S] sd_law_mixed (mCons (mVar 0) (mCons (mLRg (mRg1 (mVar 1))) mNil))))
    (mSeqS (mFor (mRng1 (mCons (mCall [.M, .S] sd_law_take (mCons (mVar 0) (mCons (mOp addD (mVar 1) (mC (.int 1))) mNil))) mNil)) (mgName 4) (mSeqS (mPar (mPCons (mCall [.M, .S] sd_law_take (mCons (mVar 0) (mCons (mVar 1) mNil))) (mPCons (mCall [.M, .S] sd_law_take (mCons (mVar 0) (mCons (mVar 1) mNil))) (mPCons (mCall [.M, .S] sd_law_take (mCons (mVar 0) (mCons (mOp addD (mVar 2) (mC (.int 1))) mNil))) mPNil))) (.sh 5 :: .sh 6 :: .sh 7 :: []))
    (mSeqS (mAugS (mVar 3) (mVar 5) (mOp mulD (mVar 7) (mVar 1)) addI)
    (mAugS (mVar 3) (mVar 6) (mOp mulD (mVar 7) (mVar 1)) subI))))
    (mRet (mCB tupleD (mCons (mVar 3) mNil)))))
set_option maxHeartbeats 4000000 in
theorem walk_law_any_outcome {f : Addr} {fd : FuncData} (F : Fun K "_law_any_outcome" "_law_any_outcome" s_law_any_outcome f fd) {sd_law_take sd_law_mixed : DSp}
    {f_law_take : Addr} {fd_law_take : FuncData} (F_law_take : FnG P w K mg base 1 f_law_take fd_law_take ["_law_bag_here", "_law_many"] (spD K [.M, .S] sd_law_take)) (g_law_take : mg "_law_take" = some (.ref f_law_take)) (k_law_take : PySem.W.keepIn K (.ref f_law_take) = true) (b_law_take : Binds K fd_law_take ["_law_bag_here", "_law_many"] [])
    {f_law_mixed : Addr} {fd_law_mixed : FuncData} (F_law_mixed : FnG P w K mg base 2 f_law_mixed fd_law_mixed ["_law_bag_here", "_law_things"] (spD K [.M, .S] sd_law_mixed)) (g_law_mixed : mg "_law_mixed" = some (.ref f_law_mixed)) (k_law_mixed : PySem.W.keepIn K (.ref f_law_mixed) = true) (b_law_mixed : Binds K fd_law_mixed ["_law_bag_here", "_law_things"] []) (z_tuple : mg "tuple" = none) (z_range : mg "range" = none) (z_list : mg "list" = none)
    {sd : DSp} (hv : ∀ ds Qd Ed, ds.length = 3 → sd ds Qd Ed → m_law_any_outcome sd_law_take sd_law_mixed (endsD [.M, .S, .S] Qd) (startD ["_law_bag_here", "_law_size", "_law_laps", "_law_found", "_law_turn", "_law_one", "_law_other", "_law_many"] [.M, .S, .S] ds)) :
    FnG P w K mg base 3 f fd ["_law_bag_here", "_law_size", "_law_laps"] (spD K [.M, .S, .S] sd) := by
  refine fn_dm (N := ["_law_bag_here", "_law_size", "_law_laps", "_law_found", "_law_turn", "_law_one", "_law_other", "_law_many"]) F sc_law_any_outcome rfl hv fun cdv A outer s H0 vs E O H hg hr => ?_
  have sc := sc_law_any_outcome
  unfold m_law_any_outcome
  exact ⟨_, (ds_cons (ds_setO (de_call F_law_mixed hg (hr.mono (by decide)) (by rfl) g_law_mixed k_law_mixed b_law_mixed (da_cons (de_var 0 (pv 0)) (da_cons (de_listRg rfl (by rfl) z_list (dr_1 (by rfl) z_range (de_var 1 (pv 1)))) da_nil))) (fun h => ps_set (i := 3) sc.nd rfl (by first | exact Or.inl rfl | exact Or.inr rfl) h))
    (ds_cons (ds_for PassesOwn.never rfl (di_rng1 (by rfl) z_range (da_cons (de_call F_law_take hg (hr.mono (by decide)) (by rfl) g_law_take k_law_take b_law_take (da_cons (de_var 0 (pv 0)) (da_cons (de_add (de_var 1 (pv 1)) de_int) da_nil))) da_nil)) (fun _ => (dg_name 4 (pg_name (i := 4) sc.nd rfl (by first | exact Or.inl rfl | exact Or.inr rfl)))) (fun _ => (ds_cons (ds_par3 (fun h => ps_par3 (i := 5) (j := 6) (l := 7) rfl sc.nd rfl rfl rfl (by decide) (by decide) (by decide) rfl rfl rfl h (by rfl)) (dp_cons (de_call F_law_take hg (hr.mono (by decide)) (by rfl) g_law_take k_law_take b_law_take (da_cons (de_var 0 (pv 0)) (da_cons (de_var 1 (pv 1)) da_nil))) (fun _ => (dp_cons (de_call F_law_take hg (hr.mono (by decide)) (by rfl) g_law_take k_law_take b_law_take (da_cons (de_var 0 (pv 0)) (da_cons (de_var 1 (pv 1)) da_nil))) (fun _ => (dp_cons (de_call F_law_take hg (hr.mono (by decide)) (by rfl) g_law_take k_law_take b_law_take (da_cons (de_var 0 (pv 0)) (da_cons (de_add (de_var 2 (pv 2)) de_int) da_nil))) (fun _ => dp_nil)))))) (sim_tsh (sim_tsh (sim_tsh sim_tnil 7) 6) 5))
    (ds_cons (ds_augSA (fun a b c => ps_augS a b get_listG c ip_add set_list) (de_var 3 (pv 3)) (de_var 5 (pv 5)) (de_mul (de_var 7 (pv 7)) (de_var 1 (pv 1))))
    (ds_one (ds_augSS (fun a b c => ps_augS a b get_listG c ip_sub set_list) (de_var 3 (pv 3)) (de_var 6 (pv 6)) (de_mul (de_var 7 (pv 7)) (de_var 1 (pv 1)))))))))
    (ds_one (ds_ret (de_tuple (by rfl) z_tuple (da_cons (de_var 3 (pv 3)) da_nil))))))⟩
/-- _law_run_of(_law_there, _law_schedule_here) -/
def m_law_run_of  : DTS :=
    (mSeqS (mPar (mPCons (mCB lenD (mCons (mVar 0) mNil)) (mPCons (mCB listD (mCons (mVar 0) mNil)) (mPCons (mLst mNil) mPNil))) (.sh 2 :: .ow 0 :: .ow 3 :: []))
    (mSeqS (mFor (mEnum (mVar 1)) (mgTup 2 (mgCons (mgName 4) (mgCons (mgName 5) mgNil))) (mSeqS (mSet 6 (mOp mulD (mVar 2) (mCB intD (mCons (mOp eqD (mVar 5) (mOp subD (mVar 2) (mC (.int 1)))) mNil))))
    (mSeqS (mPar (mPCons (mOp ixD (mVar 0) (mVar 5)) (mPCons (mOp addD (mOp ixD (mVar 0) (mOp modD (mOp addD (mVar 5) (mC (.int 1))) (mVar 2))) (mVar 6)) mPNil)) (.sh 7 :: .sh 8 :: []))
    (mIfS (mTest (mOp ltD (mVar 7) (mVar 8))) (mSeqS (mPar3 2 (mPCons (mVar 8) (mPCons (mOp subD (mVar 7) (mVar 6)) mPNil)) (.sub (mVar 0) (mVar 5) :: .sub (mVar 0) (mOp modD (mOp addD (mVar 5) (mC (.int 1))) (mVar 2)) :: []))
    (mDrop (mMut appendD (mVar 3) (mCons (mVar 4) mNil)))) mNext))))
    (mFrz 0 (mFrz 3 (mRet (mTup (mCons (mVar 0) (mCons (mVar 3) mNil))))))))
set_option maxHeartbeats 4000000 in
theorem walk_law_run_of {f : Addr} {fd : FuncData} (F : Fun K "_law_run_of" "_law_run_of" s_law_run_of f fd) (z_enumerate : mg "enumerate" = none) (z_int : mg "int" = none) (z_list : mg "list" = none) (z_len : mg "len" = none)
    {sd : DSp} (hv : ∀ ds Qd Ed, ds.length = 2 → sd ds Qd Ed → m_law_run_of (endsD [.S, .S] Qd) (startD ["_law_there", "_law_schedule_here", "_law_size", "_law_found", "_law_at", "_law_gap", "_law_shift", "_law_first", "_law_second"] [.S, .S] ds)) :
    FnG P w K mg base 1 f fd ["_law_there", "_law_schedule_here"] (spD K [.S, .S] sd) := by
  refine fn_dm (N := ["_law_there", "_law_schedule_here", "_law_size", "_law_found", "_law_at", "_law_gap", "_law_shift", "_law_first", "_law_second"]) F sc_law_run_of rfl hv fun cdv A outer s H0 vs E O H hg hr => ?_
  have sc := sc_law_run_of
  unfold m_law_run_of
  exact ⟨_, (ds_cons (ds_par3 (fun h => ps_par3 (i := 2) (j := 0) (l := 3) rfl sc.nd rfl rfl rfl (by decide) (by decide) (by decide) rfl rfl rfl h (by rfl)) (dp_cons (de_len (by rfl) z_len (da_cons (de_var 0 (pv 0)) da_nil)) (fun _ => (dp_cons (de_list (by rfl) z_list (da_cons (de_var 0 (pv 0)) da_nil)) (fun _ => (dp_cons (de_lst da_nil) (fun _ => dp_nil)))))) (sim_tsh (sim_tow (sim_tow sim_tnil 3) 0) 2))
    (ds_cons (ds_for PassesOwn.never rfl (di_enum (by rfl) z_enumerate (de_var 1 (pv 1))) (fun _ => (dg_tup rfl (dgs_cons (dg_name 4 (pg_name (i := 4) sc.nd rfl (by first | exact Or.inl rfl | exact Or.inr rfl))) (dgs_cons (dg_name 5 (pg_name (i := 5) sc.nd rfl (by first | exact Or.inl rfl | exact Or.inr rfl))) dgs_nil)))) (fun _ => (ds_cons (ds_set (de_mul (de_var 2 (pv 2)) (de_intc (by rfl) z_int (da_cons (de_eq hr.units (de_var 5 (pv 5)) (de_sub (de_var 2 (pv 2)) de_int)) da_nil))) (fun h => ps_set (i := 6) sc.nd rfl (by first | exact Or.inl rfl | exact Or.inr rfl) h))
    (ds_cons (ds_par2 (fun h => ps_par (i := 7) (j := 8) rfl sc.nd rfl rfl (by decide) rfl rfl h (by rfl)) (dp_cons (de_ix (de_var 0 (pv 0)) (de_var 5 (pv 5))) (fun _ => (dp_cons (de_add (de_ix (de_var 0 (pv 0)) (de_mod (de_add (de_var 5 (pv 5)) de_int) (de_var 2 (pv 2)))) (de_var 6 (pv 6))) (fun _ => dp_nil)))) (sim_tsh (sim_tsh sim_tnil 8) 7))
    (ds_one (ds_if (dt_cmp op_lt sim_lt (de_var 7 (pv 7)) (de_var 8 (pv 8)) (nomark _)) (ds_cons (ds_asgT (n := 2) (dp_cons (de_var 8 (pv 8)) (fun _ => (dp_cons (de_sub (de_var 7 (pv 7)) (de_var 6 (pv 6))) (fun _ => dp_nil)))) (dts_sub (fun a b => pg_sub a b set_list) (fun _ => (de_var 0 (pv 0))) (fun _ => (de_var 5 (pv 5))) (dts_sub (fun a b => pg_sub a b set_list) (fun _ => (de_var 0 (pv 0))) (fun _ => (de_mod (de_add (de_var 5 (pv 5)) de_int) (de_var 2 (pv 2)))) dts_nil)) rfl (by decide))
    (ds_one (ds_expr (de_append (fun x y => pe_bm PySem.F.plainAttrs_list PySem.F.slot_list_append PySem.F.type_list_append mt_append x y) (de_var 3 (pv 3)) (da_cons (de_var 4 (pv 4)) da_nil))))) ds_nil))))))
    (dss_frz 0 (dss_frz 3 (ds_one (ds_ret (de_tup (da_cons (de_var 0 (pv 0)) (da_cons (de_var 3 (pv 3)) da_nil)))))))))⟩
/-- _law_endless(_law_size, _law_schedule_here) -/
def m_law_endless (sd_law_run_of sd_law_standing : DSp) : DTS :=
    (mRet (mCall [.S, .S] sd_law_run_of (mCons (mCall [.S] sd_law_standing (mCons (mVar 0) mNil)) (mCons (mVar 1) mNil))))
set_option maxHeartbeats 4000000 in
theorem walk_law_endless {f : Addr} {fd : FuncData} (F : Fun K "_law_endless" "_law_endless" s_law_endless f fd) {sd_law_run_of sd_law_standing : DSp}
    {f_law_run_of : Addr} {fd_law_run_of : FuncData} (F_law_run_of : FnG P w K mg base 1 f_law_run_of fd_law_run_of ["_law_there", "_law_schedule_here"] (spD K [.S, .S] sd_law_run_of)) (g_law_run_of : mg "_law_run_of" = some (.ref f_law_run_of)) (k_law_run_of : PySem.W.keepIn K (.ref f_law_run_of) = true) (b_law_run_of : Binds K fd_law_run_of ["_law_there", "_law_schedule_here"] [])
    {f_law_standing : Addr} {fd_law_standing : FuncData} (F_law_standing : FnG P w K mg base 1 f_law_standing fd_law_standing ["_law_size"] (spD K [.S] sd_law_standing)) (g_law_standing : mg "_law_standing" = some (.ref f_law_standing)) (k_law_standing : PySem.W.keepIn K (.ref f_law_standing) = true) (b_law_standing : Binds K fd_law_standing ["_law_size"] [])
    {sd : DSp} (hv : ∀ ds Qd Ed, ds.length = 2 → sd ds Qd Ed → m_law_endless sd_law_run_of sd_law_standing (endsD [.S, .S] Qd) (startD ["_law_size", "_law_schedule_here"] [.S, .S] ds)) :
    FnG P w K mg base 2 f fd ["_law_size", "_law_schedule_here"] (spD K [.S, .S] sd) := by
  refine fn_dm (N := ["_law_size", "_law_schedule_here"]) F sc_law_endless rfl hv fun cdv A outer s H0 vs E O H hg hr => ?_
  have sc := sc_law_endless
  unfold m_law_endless
  exact ⟨_, (ds_one (ds_ret (de_call F_law_run_of hg (hr.mono (by decide)) (by rfl) g_law_run_of k_law_run_of b_law_run_of (da_cons (de_call F_law_standing hg (hr.mono (by decide)) (by rfl) g_law_standing k_law_standing b_law_standing (da_cons (de_var 0 (pv 0)) da_nil)) (da_cons (de_var 1 (pv 1)) da_nil)))))⟩
/-- _law_drawn_thread(_law_bag_here, _law_size, _law_schedule_here) -/
def m_law_drawn_thread (sd_law_take : DSp) : DTS :=
    (mSeqS (mSetO 3 (mLst (mCons (mOp subD (mCall [.M, .S] sd_law_take (mCons (mVar 0) (mCons (mOp mulD (mC (.int 3)) (mVar 1)) mNil))) (mVar 1)) mNil)))
    (mSeqS (mFor (mSeq (mRevL (mVar 2))) (mgName 4) (mSeqS (mSet 5 (mOp mulD (mOp ixD (mLst (mCons (mC (.int 1)) (mCons (mUn negD (mC (.int 1))) mNil))) (mCall [.M, .S] sd_law_take (mCons (mVar 0) (mCons (mC (.int 2)) mNil)))) (mCB intD (mCons (mOp eqD (mOp modD (mOp subD (mOp ixD (mVar 3) (mC (.int 0))) (mVar 4)) (mVar 1)) (mC (.int 0))) mNil))))
    (mDrop (mMut insertD (mVar 3) (mCons (mC (.int 0)) (mCons (mOp addD (mOp ixD (mVar 3) (mC (.int 0))) (mVar 5)) mNil))))))
    (mRet (mVar 3))))
set_option maxHeartbeats 4000000 in
theorem walk_law_drawn_thread {f : Addr} {fd : FuncData} (F : Fun K "_law_drawn_thread" "_law_drawn_thread" s_law_drawn_thread f fd) {sd_law_take : DSp}
    {f_law_take : Addr} {fd_law_take : FuncData} (F_law_take : FnG P w K mg base 1 f_law_take fd_law_take ["_law_bag_here", "_law_many"] (spD K [.M, .S] sd_law_take)) (g_law_take : mg "_law_take" = some (.ref f_law_take)) (k_law_take : PySem.W.keepIn K (.ref f_law_take) = true) (b_law_take : Binds K fd_law_take ["_law_bag_here", "_law_many"] []) (z_int : mg "int" = none)
    {sd : DSp} (hv : ∀ ds Qd Ed, ds.length = 3 → sd ds Qd Ed → m_law_drawn_thread sd_law_take (endsD [.M, .S, .S] Qd) (startD ["_law_bag_here", "_law_size", "_law_schedule_here", "_law_found", "_law_gap", "_law_step"] [.M, .S, .S] ds)) :
    FnG P w K mg base 2 f fd ["_law_bag_here", "_law_size", "_law_schedule_here"] (spD K [.M, .S, .S] sd) := by
  refine fn_dm (N := ["_law_bag_here", "_law_size", "_law_schedule_here", "_law_found", "_law_gap", "_law_step"]) F sc_law_drawn_thread rfl hv fun cdv A outer s H0 vs E O H hg hr => ?_
  have sc := sc_law_drawn_thread
  unfold m_law_drawn_thread
  exact ⟨_, (ds_cons (ds_setO (de_lst (da_cons (de_sub (de_call F_law_take hg (hr.mono (by decide)) (by rfl) g_law_take k_law_take b_law_take (da_cons (de_var 0 (pv 0)) (da_cons (de_mul de_int (de_var 1 (pv 1))) da_nil))) (de_var 1 (pv 1))) da_nil)) (fun h => ps_set (i := 3) sc.nd rfl (by first | exact Or.inl rfl | exact Or.inr rfl) h))
    (ds_cons (ds_for PassesOwn.never rfl (di_seq (de_revL (de_var 2 (pv 2)))) (fun _ => (dg_name 4 (pg_name (i := 4) sc.nd rfl (by first | exact Or.inl rfl | exact Or.inr rfl)))) (fun _ => (ds_cons (ds_set (de_mul (de_ix (de_lst (da_cons de_int (da_cons (de_neg de_int) da_nil))) (de_call F_law_take hg (hr.mono (by decide)) (by rfl) g_law_take k_law_take b_law_take (da_cons (de_var 0 (pv 0)) (da_cons de_int da_nil)))) (de_intc (by rfl) z_int (da_cons (de_eq hr.units (de_mod (de_sub (de_ix (de_var 3 (pv 3)) de_int) (de_var 4 (pv 4))) (de_var 1 (pv 1))) de_int) da_nil))) (fun h => ps_set (i := 5) sc.nd rfl (by first | exact Or.inl rfl | exact Or.inr rfl) h))
    (ds_one (ds_expr (de_insert (fun x y => pe_bm PySem.F.plainAttrs_list PySem.F.slot_list_insert PySem.F.type_list_insert mt_insert x y) (de_var 3 (pv 3)) (da_cons de_int (da_cons (de_add (de_ix (de_var 3 (pv 3)) de_int) (de_var 5 (pv 5))) da_nil))))))))
    (ds_one (ds_ret (de_var 3 (pv 3))))))⟩
/-- _law_counted(_law_thread) -/
def m_law_counted  : DTS :=
    (mRet (mCB lenD (mCons (mComp (mRng2 (mCons (mC (.int 1)) (mCons (mCB lenD (mCons (mVar 0) mNil)) mNil))) (mgName 1) (mTest (mOp gtD (mOp ixD (mVar 0) (mOp subD (mVar 1) (mC (.int 1)))) (mOp ixD (mVar 0) (mVar 1)))) (mVar 1) [1]) mNil)))
set_option maxHeartbeats 4000000 in
theorem walk_law_counted {f : Addr} {fd : FuncData} (F : Fun K "_law_counted" "_law_counted" s_law_counted f fd) (z_len : mg "len" = none) (z_range : mg "range" = none)
    {sd : DSp} (hv : ∀ ds Qd Ed, ds.length = 1 → sd ds Qd Ed → m_law_counted (endsD [.S] Qd) (startD ["_law_thread", "_law_at"] [.S] ds)) :
    FnG P w K mg base 1 f fd ["_law_thread"] (spD K [.S] sd) := by
  refine fn_dm (N := ["_law_thread", "_law_at"]) F sc_law_counted rfl hv fun cdv A outer s H0 vs E O H hg hr => ?_
  have sc := sc_law_counted
  unfold m_law_counted
  exact ⟨_, (ds_one (ds_ret (de_len (by rfl) z_len (da_cons (de_comp (own := [("_law_at", 1)]) ⟨rfl, sc.nd, (di_rng2 (by rfl) z_range (da_cons de_int (da_cons (de_len (by rfl) z_len (da_cons (de_var 0 (pv 0)) da_nil)) da_nil))), blkOk_by (own := [("_law_at", 1)]) (N := ["_law_thread", "_law_at"]) (sc := defScope s_law_counted) (by decide +kernel), (fun _ _ _ _ _ _ => (dg_name 1 (pg_name (i := 1) sc.nd rfl (by first | exact Or.inl rfl | exact Or.inr rfl)))), (own_name (by simp)), mono_name, (fun _ _ _ _ _ _ => (df_one (dt_cmp op_gt sim_gt (de_ix (de_var 0 (pv 0)) (de_sub (de_var 1 (pv 1)) de_int)) (de_ix (de_var 0 (pv 0)) (de_var 1 (pv 1))) (nomark _)))), (fun _ _ _ _ _ _ => (de_var 1 (pv 1)))⟩) da_nil))))⟩
/-- law(_law_script) -/
def m_law (C_Ring : Addr) (sd_law_carried sd_decide sd_Ring___init__ sd_is_reason sd_law_any_outcome sd_law_counted sd_law_ended sd_law_run sd_law_take sd_law_endless sd_cheapest sd_cost sd_is_thread sd_law_drawn_thread sd_costs sd_law_schedule sd_law_ranks sd_law_some_size sd_law_bag : DSp) : DTS :=
    (mSeqS (mSetO 1 (mCall [.S] sd_law_bag (mCons (mVar 0) mNil)))
    (mSeqS (mFor (mRng1 (mCons (mC (.int 2)) mNil)) (mgName 2) (mSeqS (mSet 3 (mCall [.M, .S] sd_law_some_size (mCons (mVar 1) (mCons (mC (.int 12)) mNil))))
    (mSeqS (mPar (mPCons (mCall [.M, .S] sd_law_ranks (mCons (mVar 1) (mCons (mVar 3) mNil))) (mPCons (mCall [.M, .S, .S] sd_law_schedule (mCons (mVar 1) (mCons (mVar 3) (mCons (mC (.int 60)) mNil)))) mPNil)) (.sh 10 :: .sh 11 :: []))
    (mSeqS (mSet 4 (mOp subD (mCall [.M, .S] sd_law_take (mCons (mVar 1) (mCons (mOp mulD (mC (.int 3)) (mVar 3)) mNil))) (mVar 3)))
    (mSeqS (mSet 5 (mCall [.S, .S, .S] sd_costs (mCons (mVar 3) (mCons (mVar 11) (mCons (mVar 4) mNil)))))
    (mSeqS (mAsg (mOp ixD (mVar 5) (mCall [.M, .S] sd_law_take (mCons (mVar 1) (mCons (mCB lenD (mCons (mVar 5) mNil)) mNil)))) (mgTup 2 (mgCons (mgName 12) (mgCons (mgName 13) mgNil))))
    (mSeqS (mSet 6 (mLst (mCons (mCall [.M, .S, .S] sd_law_drawn_thread (mCons (mVar 1) (mCons (mVar 3) (mCons (mVar 11) mNil)))) (mCons (mCall [.S, .S, .S, .S] sd_cheapest (mCons (mVar 3) (mCons (mVar 11) (mCons (mVar 12) (mCons (mVar 4) mNil))))) mNil))))
    (mSeqS (mFor (mSeq (mVar 6)) (mgName 7) (mIfS (mOr (mNot (mTest (mCall [.S, .S, .S] sd_is_thread (mCons (mVar 3) (mCons (mVar 11) (mCons (mVar 7) mNil)))))) (mTest (mOp neD (mCall [.S] sd_cost (mCons (mVar 7) mNil)) (mCall [.S] sd_law_counted (mCons (mVar 7) mNil))))) (mRet (mC (.bl false))) mNext))
    (mSeqS (mIfS (mOr (mTest (mOp neD (mCall [.S] sd_cost (mCons (mOp ixD (mVar 6) (mC (.int 1))) mNil)) (mVar 13))) (mTest (mOp gtD (mVar 13) (mCall [.S] sd_law_counted (mCons (mCall [.S, .S, .S, .S] sd_cheapest (mCons (mVar 3) (mCons (mVar 11) (mCons (mVar 12) (mCons (mVar 4) mNil))))) mNil))))) (mRet (mC (.bl false))) mNext)
    (mSeqS (mAsg (mCall [.S, .S] sd_law_endless (mCons (mVar 3) (mCons (mVar 11) mNil))) (mgTup 2 (mgCons (mgName 14) (mgCons (mgName 15) mgNil))))
    (mSeqS (mFor (mRng1 (mCons (mC (.int 6)) mNil)) (mgName 8) (mSeqS (mSet 16 (mComp (mSeq (mVar 11)) (mgName 18) (mTest (mOp gtD (mCall [.M, .S] sd_law_take (mCons (mVar 1) (mCons (mC (.int 4)) mNil))) (mC (.int 0)))) (mVar 18) [18]))
    (mSeqS (mSet 17 (mCall [.S] sd_law_ended (mCons (mOp ixD (mLst (mCons (mOp ixD (mCall [.S, .S] sd_law_run (mCons (mVar 10) (mCons (mVar 16) mNil))) (mC (.int 0))) (mCons (mVar 14) mNil))) (mCB intD (mCons (mOp eqD (mVar 8) (mC (.int 0))) mNil))) mNil)))
    (mFor (mSeq (mVar 6)) (mgName 7) (mIfS (mTest (mOp gtD (mCall [.S, .S, .S] sd_law_carried (mCons (mVar 17) (mCons (mOp ixD (mVar 7) (mC (.int 0))) (mCons (mOp ixD (mVar 7) (mUn negD (mC (.int 1)))) mNil)))) (mCall [.S] sd_law_counted (mCons (mVar 7) mNil)))) (mRet (mC (.bl false))) mNext)))))
    (mSeqS (mSet 9 (mCall [.M, .S, .S] sd_law_any_outcome (mCons (mVar 1) (mCons (mVar 3) (mCons (mC (.int 2)) mNil)))))
    (mIfS (mTest (mOp gtD (mCall [.S, .S, .S] sd_law_carried (mCons (mVar 9) (mCons (mVar 12) (mCons (mVar 4) mNil)))) (mVar 13))) (mSeqS (mIfS (mTest (mOp isNotD (mCall [.S, .S, .S, .S] sd_is_reason (mCons (mMake C_Ring [.S] sd_Ring___init__ (mCons (mCB listD (mCons (mVar 10) mNil)) mNil)) (mCons (mVar 11) (mCons (mVar 9) (mCons (mTup (mCons (mC (.str "thread")) (mCons (mOp ixD (mVar 6) (mC (.int 1))) mNil))) mNil))))) (mC (.bl true)))) (mRet (mC (.bl false))) mNext)
    (mIfS (mTest (mOp eqD (mOp ixD (mCall [.S, .S, .S] sd_decide (mCons (mMake C_Ring [.S] sd_Ring___init__ (mCons (mCB listD (mCons (mVar 10) mNil)) mNil)) (mCons (mVar 11) (mCons (mVar 9) mNil)))) (mC (.int 0))) (mC (.str "kept")))) (mRet (mC (.bl false))) mNext)) mNext)))))))))))))
    (mRet (mC (.bl true)))))
set_option maxHeartbeats 4000000 in
theorem walk_law {f : Addr} {fd : FuncData} (F : Fun K "law" "law" s_law f fd) {C_Ring : Addr} {sd_law_carried sd_decide sd_Ring___init__ sd_is_reason sd_law_any_outcome sd_law_counted sd_law_ended sd_law_run sd_law_take sd_law_endless sd_cheapest sd_cost sd_is_thread sd_law_drawn_thread sd_costs sd_law_schedule sd_law_ranks sd_law_some_size sd_law_bag : DSp}
    {f_law_carried : Addr} {fd_law_carried : FuncData} (F_law_carried : FnG P w K mg base 1 f_law_carried fd_law_carried ["_law_outcome", "_law_begin", "_law_end"] (spD K [.S, .S, .S] sd_law_carried)) (g_law_carried : mg "_law_carried" = some (.ref f_law_carried)) (k_law_carried : PySem.W.keepIn K (.ref f_law_carried) = true) (b_law_carried : Binds K fd_law_carried ["_law_outcome", "_law_begin", "_law_end"] [])
    {f_decide : Addr} {fd_decide : FuncData} (F_decide : FnG P w K mg base 5 f_decide fd_decide ["ring", "schedule", "outcome"] (spD K [.S, .S, .S] sd_decide)) (g_decide : mg "decide" = some (.ref f_decide)) (k_decide : PySem.W.keepIn K (.ref f_decide) = true) (b_decide : Binds K fd_decide ["ring", "schedule", "outcome"] [])
    {f_Ring___init__ : Addr} {fd_Ring___init__ : FuncData} (F_Ring___init__ : FnG P w K mg base 4 f_Ring___init__ fd_Ring___init__ ["self", "ranks"] (spD K [.M, .S] sd_Ring___init__)) (b_Ring___init__ : Binds K fd_Ring___init__ ["self", "ranks"] [])
    {f_is_reason : Addr} {fd_is_reason : FuncData} (F_is_reason : FnG P w K mg base 5 f_is_reason fd_is_reason ["ring", "schedule", "outcome", "thing"] (spD K [.S, .S, .S, .S] sd_is_reason)) (g_is_reason : mg "is_reason" = some (.ref f_is_reason)) (k_is_reason : PySem.W.keepIn K (.ref f_is_reason) = true) (b_is_reason : Binds K fd_is_reason ["ring", "schedule", "outcome", "thing"] [])
    {f_law_any_outcome : Addr} {fd_law_any_outcome : FuncData} (F_law_any_outcome : FnG P w K mg base 3 f_law_any_outcome fd_law_any_outcome ["_law_bag_here", "_law_size", "_law_laps"] (spD K [.M, .S, .S] sd_law_any_outcome)) (g_law_any_outcome : mg "_law_any_outcome" = some (.ref f_law_any_outcome)) (k_law_any_outcome : PySem.W.keepIn K (.ref f_law_any_outcome) = true) (b_law_any_outcome : Binds K fd_law_any_outcome ["_law_bag_here", "_law_size", "_law_laps"] [])
    {f_law_counted : Addr} {fd_law_counted : FuncData} (F_law_counted : FnG P w K mg base 1 f_law_counted fd_law_counted ["_law_thread"] (spD K [.S] sd_law_counted)) (g_law_counted : mg "_law_counted" = some (.ref f_law_counted)) (k_law_counted : PySem.W.keepIn K (.ref f_law_counted) = true) (b_law_counted : Binds K fd_law_counted ["_law_thread"] [])
    {f_law_ended : Addr} {fd_law_ended : FuncData} (F_law_ended : FnG P w K mg base 1 f_law_ended fd_law_ended ["_law_there"] (spD K [.S] sd_law_ended)) (g_law_ended : mg "_law_ended" = some (.ref f_law_ended)) (k_law_ended : PySem.W.keepIn K (.ref f_law_ended) = true) (b_law_ended : Binds K fd_law_ended ["_law_there"] [])
    {f_law_run : Addr} {fd_law_run : FuncData} (F_law_run : FnG P w K mg base 2 f_law_run fd_law_run ["_law_ranks_here", "_law_schedule_here"] (spD K [.S, .S] sd_law_run)) (g_law_run : mg "_law_run" = some (.ref f_law_run)) (k_law_run : PySem.W.keepIn K (.ref f_law_run) = true) (b_law_run : Binds K fd_law_run ["_law_ranks_here", "_law_schedule_here"] [])
    {f_law_take : Addr} {fd_law_take : FuncData} (F_law_take : FnG P w K mg base 1 f_law_take fd_law_take ["_law_bag_here", "_law_many"] (spD K [.M, .S] sd_law_take)) (g_law_take : mg "_law_take" = some (.ref f_law_take)) (k_law_take : PySem.W.keepIn K (.ref f_law_take) = true) (b_law_take : Binds K fd_law_take ["_law_bag_here", "_law_many"] [])
    {f_law_endless : Addr} {fd_law_endless : FuncData} (F_law_endless : FnG P w K mg base 2 f_law_endless fd_law_endless ["_law_size", "_law_schedule_here"] (spD K [.S, .S] sd_law_endless)) (g_law_endless : mg "_law_endless" = some (.ref f_law_endless)) (k_law_endless : PySem.W.keepIn K (.ref f_law_endless) = true) (b_law_endless : Binds K fd_law_endless ["_law_size", "_law_schedule_here"] [])
    {f_cheapest : Addr} {fd_cheapest : FuncData} (F_cheapest : FnG P w K mg base 3 f_cheapest fd_cheapest ["size", "schedule", "begin", "end"] (spD K [.S, .S, .S, .S] sd_cheapest)) (g_cheapest : mg "cheapest" = some (.ref f_cheapest)) (k_cheapest : PySem.W.keepIn K (.ref f_cheapest) = true) (b_cheapest : Binds K fd_cheapest ["size", "schedule", "begin", "end"] [])
    {f_cost : Addr} {fd_cost : FuncData} (F_cost : FnG P w K mg base 1 f_cost fd_cost ["thread"] (spD K [.S] sd_cost)) (g_cost : mg "cost" = some (.ref f_cost)) (k_cost : PySem.W.keepIn K (.ref f_cost) = true) (b_cost : Binds K fd_cost ["thread"] [])
    {f_is_thread : Addr} {fd_is_thread : FuncData} (F_is_thread : FnG P w K mg base 2 f_is_thread fd_is_thread ["size", "schedule", "thing"] (spD K [.S, .S, .S] sd_is_thread)) (g_is_thread : mg "is_thread" = some (.ref f_is_thread)) (k_is_thread : PySem.W.keepIn K (.ref f_is_thread) = true) (b_is_thread : Binds K fd_is_thread ["size", "schedule", "thing"] [])
    {f_law_drawn_thread : Addr} {fd_law_drawn_thread : FuncData} (F_law_drawn_thread : FnG P w K mg base 2 f_law_drawn_thread fd_law_drawn_thread ["_law_bag_here", "_law_size", "_law_schedule_here"] (spD K [.M, .S, .S] sd_law_drawn_thread)) (g_law_drawn_thread : mg "_law_drawn_thread" = some (.ref f_law_drawn_thread)) (k_law_drawn_thread : PySem.W.keepIn K (.ref f_law_drawn_thread) = true) (b_law_drawn_thread : Binds K fd_law_drawn_thread ["_law_bag_here", "_law_size", "_law_schedule_here"] [])
    {f_costs : Addr} {fd_costs : FuncData} (F_costs : FnG P w K mg base 3 f_costs fd_costs ["size", "schedule", "end"] (spD K [.S, .S, .S] sd_costs)) (g_costs : mg "costs" = some (.ref f_costs)) (k_costs : PySem.W.keepIn K (.ref f_costs) = true) (b_costs : Binds K fd_costs ["size", "schedule", "end"] [])
    {f_law_schedule : Addr} {fd_law_schedule : FuncData} (F_law_schedule : FnG P w K mg base 2 f_law_schedule fd_law_schedule ["_law_bag_here", "_law_size", "_law_most"] (spD K [.M, .S, .S] sd_law_schedule)) (g_law_schedule : mg "_law_schedule" = some (.ref f_law_schedule)) (k_law_schedule : PySem.W.keepIn K (.ref f_law_schedule) = true) (b_law_schedule : Binds K fd_law_schedule ["_law_bag_here", "_law_size", "_law_most"] [])
    {f_law_ranks : Addr} {fd_law_ranks : FuncData} (F_law_ranks : FnG P w K mg base 2 f_law_ranks fd_law_ranks ["_law_bag_here", "_law_size"] (spD K [.M, .S] sd_law_ranks)) (g_law_ranks : mg "_law_ranks" = some (.ref f_law_ranks)) (k_law_ranks : PySem.W.keepIn K (.ref f_law_ranks) = true) (b_law_ranks : Binds K fd_law_ranks ["_law_bag_here", "_law_size"] [])
    {f_law_some_size : Addr} {fd_law_some_size : FuncData} (F_law_some_size : FnG P w K mg base 2 f_law_some_size fd_law_some_size ["_law_bag_here", "_law_most"] (spD K [.M, .S] sd_law_some_size)) (g_law_some_size : mg "_law_some_size" = some (.ref f_law_some_size)) (k_law_some_size : PySem.W.keepIn K (.ref f_law_some_size) = true) (b_law_some_size : Binds K fd_law_some_size ["_law_bag_here", "_law_most"] [])
    {f_law_bag : Addr} {fd_law_bag : FuncData} (F_law_bag : FnG P w K mg base 1 f_law_bag fd_law_bag ["_law_script"] (spD K [.S] sd_law_bag)) (g_law_bag : mg "_law_bag" = some (.ref f_law_bag)) (k_law_bag : PySem.W.keepIn K (.ref f_law_bag) = true) (b_law_bag : Binds K fd_law_bag ["_law_script"] []) (mk_Ring : Mk K C_Ring f_Ring___init__) (g_Ring : mg "Ring" = some (.ref C_Ring)) (z_range : mg "range" = none) (z_list : mg "list" = none) (z_int : mg "int" = none) (z_len : mg "len" = none)
    {sd : DSp} (hv : ∀ ds Qd Ed, ds.length = 1 → sd ds Qd Ed → m_law C_Ring sd_law_carried sd_decide sd_Ring___init__ sd_is_reason sd_law_any_outcome sd_law_counted sd_law_ended sd_law_run sd_law_take sd_law_endless sd_cheapest sd_cost sd_is_thread sd_law_drawn_thread sd_costs sd_law_schedule sd_law_ranks sd_law_some_size sd_law_bag (endsD [.S] Qd) (startD ["_law_script", "_law_bag_here", "_law_go", "_law_size", "_law_end", "_law_prices", "_law_threads", "_law_thread", "_law_k", "_law_odd", "_law_ranks_here", "_law_schedule_here", "_law_begin", "_law_price", "_law_there", "_law_indexes", "_law_some", "_law_outcome", "_law_gap"] [.S] ds)) :
    FnG P w K mg base 6 f fd ["_law_script"] (spD K [.S] sd) := by
  refine fn_dm (N := ["_law_script", "_law_bag_here", "_law_go", "_law_size", "_law_end", "_law_prices", "_law_threads", "_law_thread", "_law_k", "_law_odd", "_law_ranks_here", "_law_schedule_here", "_law_begin", "_law_price", "_law_there", "_law_indexes", "_law_some", "_law_outcome", "_law_gap"]) F sc_law rfl hv fun cdv A outer s H0 vs E O H hg hr => ?_
  have sc := sc_law
  unfold m_law
  exact ⟨_, (ds_cons (ds_setO (de_call F_law_bag hg (hr.mono (by decide)) (by rfl) g_law_bag k_law_bag b_law_bag (da_cons (de_var 0 (pv 0)) da_nil)) (fun h => ps_set (i := 1) sc.nd rfl (by first | exact Or.inl rfl | exact Or.inr rfl) h))
    (ds_cons (ds_for PassesOwn.never rfl (di_rng1 (by rfl) z_range (da_cons de_int da_nil)) (fun _ => (dg_name 2 (pg_name (i := 2) sc.nd rfl (by first | exact Or.inl rfl | exact Or.inr rfl)))) (fun _ => (ds_cons (ds_set (de_call F_law_some_size hg (hr.mono (by decide)) (by rfl) g_law_some_size k_law_some_size b_law_some_size (da_cons (de_var 1 (pv 1)) (da_cons de_int da_nil))) (fun h => ps_set (i := 3) sc.nd rfl (by first | exact Or.inl rfl | exact Or.inr rfl) h))
    (ds_cons (ds_par2 (fun h => ps_par (i := 10) (j := 11) rfl sc.nd rfl rfl (by decide) rfl rfl h (by rfl)) (dp_cons (de_call F_law_ranks hg (hr.mono (by decide)) (by rfl) g_law_ranks k_law_ranks b_law_ranks (da_cons (de_var 1 (pv 1)) (da_cons (de_var 3 (pv 3)) da_nil))) (fun _ => (dp_cons (de_call F_law_schedule hg (hr.mono (by decide)) (by rfl) g_law_schedule k_law_schedule b_law_schedule (da_cons (de_var 1 (pv 1)) (da_cons (de_var 3 (pv 3)) (da_cons de_int da_nil)))) (fun _ => dp_nil)))) (sim_tsh (sim_tsh sim_tnil 11) 10))
    (ds_cons (ds_set (de_sub (de_call F_law_take hg (hr.mono (by decide)) (by rfl) g_law_take k_law_take b_law_take (da_cons (de_var 1 (pv 1)) (da_cons (de_mul de_int (de_var 3 (pv 3))) da_nil))) (de_var 3 (pv 3))) (fun h => ps_set (i := 4) sc.nd rfl (by first | exact Or.inl rfl | exact Or.inr rfl) h))
    (ds_cons (ds_set (de_call F_costs hg (hr.mono (by decide)) (by rfl) g_costs k_costs b_costs (da_cons (de_var 3 (pv 3)) (da_cons (de_var 11 (pv 11)) (da_cons (de_var 4 (pv 4)) da_nil)))) (fun h => ps_set (i := 5) sc.nd rfl (by first | exact Or.inl rfl | exact Or.inr rfl) h))
    (ds_cons (ds_asg (de_ix (de_var 5 (pv 5)) (de_call F_law_take hg (hr.mono (by decide)) (by rfl) g_law_take k_law_take b_law_take (da_cons (de_var 1 (pv 1)) (da_cons (de_len (by rfl) z_len (da_cons (de_var 5 (pv 5)) da_nil)) da_nil)))) (dg_tup rfl (dgs_cons (dg_name 12 (pg_name (i := 12) sc.nd rfl (by first | exact Or.inl rfl | exact Or.inr rfl))) (dgs_cons (dg_name 13 (pg_name (i := 13) sc.nd rfl (by first | exact Or.inl rfl | exact Or.inr rfl))) dgs_nil))))
    (ds_cons (ds_set (de_lst (da_cons (de_call F_law_drawn_thread hg (hr.mono (by decide)) (by rfl) g_law_drawn_thread k_law_drawn_thread b_law_drawn_thread (da_cons (de_var 1 (pv 1)) (da_cons (de_var 3 (pv 3)) (da_cons (de_var 11 (pv 11)) da_nil)))) (da_cons (de_call F_cheapest hg (hr.mono (by decide)) (by rfl) g_cheapest k_cheapest b_cheapest (da_cons (de_var 3 (pv 3)) (da_cons (de_var 11 (pv 11)) (da_cons (de_var 12 (pv 12)) (da_cons (de_var 4 (pv 4)) da_nil))))) da_nil))) (fun h => ps_set (i := 6) sc.nd rfl (by first | exact Or.inl rfl | exact Or.inr rfl) h))
    (ds_cons (ds_for PassesOwn.never rfl (di_seq (de_var 6 (pv 6))) (fun _ => (dg_name 7 (pg_name (i := 7) sc.nd rfl (by first | exact Or.inl rfl | exact Or.inr rfl)))) (fun _ => (ds_one (ds_if (dw_pt (dw_or (dt_not (dt_val (de_call F_is_thread hg (hr.mono (by decide)) (by rfl) g_is_thread k_is_thread b_is_thread (da_cons (de_var 3 (pv 3)) (da_cons (de_var 11 (pv 11)) (da_cons (de_var 7 (pv 7)) da_nil)))))) (dw_or1 (dt_ne hr.units (de_call F_cost hg (hr.mono (by decide)) (by rfl) g_cost k_cost b_cost (da_cons (de_var 7 (pv 7)) da_nil)) (de_call F_law_counted hg (hr.mono (by decide)) (by rfl) g_law_counted k_law_counted b_law_counted (da_cons (de_var 7 (pv 7)) da_nil)))))) (ds_one (ds_ret de_bl)) ds_nil))))
    (ds_cons (ds_if (dw_pt (dw_or (dt_ne hr.units (de_call F_cost hg (hr.mono (by decide)) (by rfl) g_cost k_cost b_cost (da_cons (de_ix (de_var 6 (pv 6)) de_int) da_nil)) (de_var 13 (pv 13))) (dw_or1 (dt_cmp op_gt sim_gt (de_var 13 (pv 13)) (de_call F_law_counted hg (hr.mono (by decide)) (by rfl) g_law_counted k_law_counted b_law_counted (da_cons (de_call F_cheapest hg (hr.mono (by decide)) (by rfl) g_cheapest k_cheapest b_cheapest (da_cons (de_var 3 (pv 3)) (da_cons (de_var 11 (pv 11)) (da_cons (de_var 12 (pv 12)) (da_cons (de_var 4 (pv 4)) da_nil))))) da_nil)) (nomark _))))) (ds_one (ds_ret de_bl)) ds_nil)
    (ds_cons (ds_asg (de_call F_law_endless hg (hr.mono (by decide)) (by rfl) g_law_endless k_law_endless b_law_endless (da_cons (de_var 3 (pv 3)) (da_cons (de_var 11 (pv 11)) da_nil))) (dg_tup rfl (dgs_cons (dg_name 14 (pg_name (i := 14) sc.nd rfl (by first | exact Or.inl rfl | exact Or.inr rfl))) (dgs_cons (dg_name 15 (pg_name (i := 15) sc.nd rfl (by first | exact Or.inl rfl | exact Or.inr rfl))) dgs_nil))))
    (ds_cons (ds_for PassesOwn.never rfl (di_rng1 (by rfl) z_range (da_cons de_int da_nil)) (fun _ => (dg_name 8 (pg_name (i := 8) sc.nd rfl (by first | exact Or.inl rfl | exact Or.inr rfl)))) (fun _ => (ds_cons (ds_setC (i := 16) (own := [("_law_gap", 18)]) ⟨rfl, sc.nd, (di_seq (de_var 11 (pv 11))), blkOk_by (own := [("_law_gap", 18)]) (N := ["_law_script", "_law_bag_here", "_law_go", "_law_size", "_law_end", "_law_prices", "_law_threads", "_law_thread", "_law_k", "_law_odd", "_law_ranks_here", "_law_schedule_here", "_law_begin", "_law_price", "_law_there", "_law_indexes", "_law_some", "_law_outcome", "_law_gap"]) (sc := defScope s_law) (by decide +kernel), (fun _ _ _ _ _ _ => (dg_name 18 (pg_name (i := 18) sc.nd rfl (by first | exact Or.inl rfl | exact Or.inr rfl)))), (own_name (by simp)), mono_name, (fun _ _ _ _ _ _ => (df_one (dt_cmp op_gt sim_gt (de_call F_law_take hg (hr.mono (by decide)) (by rfl) g_law_take k_law_take b_law_take (da_cons (de_var 1 (pv 1)) (da_cons de_int da_nil))) de_int (nomark _)))), (fun _ _ _ _ _ _ => (de_var 18 (pv 18)))⟩ rfl rfl (sw_true rfl rfl rfl (by decide +kernel)))
    (ds_cons (ds_set (de_call F_law_ended hg (hr.mono (by decide)) (by rfl) g_law_ended k_law_ended b_law_ended (da_cons (de_ix (de_lst (da_cons (de_ix (de_call F_law_run hg (hr.mono (by decide)) (by rfl) g_law_run k_law_run b_law_run (da_cons (de_var 10 (pv 10)) (da_cons (de_var 16 (pv 16)) da_nil))) de_int) (da_cons (de_var 14 (pv 14)) da_nil))) (de_intc (by rfl) z_int (da_cons (de_eq hr.units (de_var 8 (pv 8)) de_int) da_nil))) da_nil)) (fun h => ps_set (i := 17) sc.nd rfl (by first | exact Or.inl rfl | exact Or.inr rfl) h))
    (ds_one (ds_for PassesOwn.never rfl (di_seq (de_var 6 (pv 6))) (fun _ => (dg_name 7 (pg_name (i := 7) sc.nd rfl (by first | exact Or.inl rfl | exact Or.inr rfl)))) (fun _ => (ds_one (ds_if (dt_cmp op_gt sim_gt (de_call F_law_carried hg (hr.mono (by decide)) (by rfl) g_law_carried k_law_carried b_law_carried (da_cons (de_var 17 (pv 17)) (da_cons (de_ix (de_var 7 (pv 7)) de_int) (da_cons (de_ix (de_var 7 (pv 7)) (de_neg de_int)) da_nil)))) (de_call F_law_counted hg (hr.mono (by decide)) (by rfl) g_law_counted k_law_counted b_law_counted (da_cons (de_var 7 (pv 7)) da_nil)) (nomark _)) (ds_one (ds_ret de_bl)) ds_nil)))))))))
    (ds_cons (ds_set (de_call F_law_any_outcome hg (hr.mono (by decide)) (by rfl) g_law_any_outcome k_law_any_outcome b_law_any_outcome (da_cons (de_var 1 (pv 1)) (da_cons (de_var 3 (pv 3)) (da_cons de_int da_nil)))) (fun h => ps_set (i := 9) sc.nd rfl (by first | exact Or.inl rfl | exact Or.inr rfl) h))
    (ds_one (ds_if (dt_cmp op_gt sim_gt (de_call F_law_carried hg (hr.mono (by decide)) (by rfl) g_law_carried k_law_carried b_law_carried (da_cons (de_var 9 (pv 9)) (da_cons (de_var 12 (pv 12)) (da_cons (de_var 4 (pv 4)) da_nil)))) (de_var 13 (pv 13)) (nomark _)) (ds_cons (ds_if (dt_cmp op_uIsNot sim_isNot (de_call F_is_reason hg (hr.mono (by decide)) (by rfl) g_is_reason k_is_reason b_is_reason (da_cons (de_make mk_Ring F_Ring___init__ hg (hr.mono (by decide)) (by rfl) g_Ring b_Ring___init__ (da_cons (de_list (by rfl) z_list (da_cons (de_var 10 (pv 10)) da_nil)) da_nil)) (da_cons (de_var 11 (pv 11)) (da_cons (de_var 9 (pv 9)) (da_cons (de_tup (da_cons de_str (da_cons (de_ix (de_var 6 (pv 6)) de_int) da_nil))) da_nil))))) de_bl (nomark _)) (ds_one (ds_ret de_bl)) ds_nil)
    (ds_one (ds_if (dt_eq hr.units (de_ix (de_call F_decide hg (hr.mono (by decide)) (by rfl) g_decide k_decide b_decide (da_cons (de_make mk_Ring F_Ring___init__ hg (hr.mono (by decide)) (by rfl) g_Ring b_Ring___init__ (da_cons (de_list (by rfl) z_list (da_cons (de_var 10 (pv 10)) da_nil)) da_nil)) (da_cons (de_var 11 (pv 11)) (da_cons (de_var 9 (pv 9)) da_nil)))) de_int) de_str) (ds_one (ds_ret de_bl)) ds_nil))) ds_nil)))))))))))))))
    (ds_one (ds_ret de_bl))))⟩
end
end LW
namespace LW
open PySem PySem.Spec PyProof.Rows L2 DL
set_option hygiene false in
local macro_rules | `(tactic| lcg_sub) => `(tactic| repeat (first | ((with_reducible apply e_V); exact rfl) | (with_reducible apply v_sh) | (with_reducible apply v_io) | (with_reducible apply v_ow) | (with_reducible apply v_bo) | ((with_reducible apply e_op2); exact rfl; exact rfl) | (with_reducible apply e_op) | (with_reducible apply e_cons) | (with_reducible apply e_C) | (with_reducible apply e_nil) | (with_reducible apply s_seq) | (with_reducible apply e_Tt) | (with_reducible apply e_Ff) | (with_reducible apply e_nTt) | (with_reducible apply e_nFf) | ((with_reducible apply e_dT); first | with_reducible assumption | omega | with_reducible rfl) | ((with_reducible apply e_dF); first | with_reducible assumption | omega | with_reducible rfl) | ((with_reducible apply e_nT); first | with_reducible assumption | omega | with_reducible rfl) | ((with_reducible apply e_nF); first | with_reducible assumption | omega | with_reducible rfl) | ((with_reducible apply i_ix); first | exact atI_0 | exact atI_1 | exact atI_2 | exact atI_3) | ((with_reducible apply i_ixT); first | exact atI_0 | exact atI_1 | exact atI_2 | exact atI_3) | ((with_reducible apply i_ix); first | exact atI_ints (by omega)) | ((with_reducible apply i_ixT); first | exact atI_ints (by omega)) | ((with_reducible apply e_ptV); exact rfl; (first | (simp only [wipeD, List.set_cons_zero, List.set_cons_succ]; exact rfl) | exact rfl)) | ((with_reducible apply e_ptF); exact rfl; (first | (simp only [wipeD, List.set_cons_zero, List.set_cons_succ]; exact rfl) | exact rfl)) | ((with_reducible apply d_val); exact rfl) | ((with_reducible apply d_fr); exact rfl) | ((with_reducible apply d_pl); exact rfl; exact rfl) | ((with_reducible apply e_call); exact rfl; (first | exact rfl | decide); exact rfl) | (with_reducible apply e_test) | (with_reducible apply e_tst) | ((with_reducible apply e_cb); exact rfl) | (with_reducible apply e_andv) | ((with_reducible apply e_lst); exact rfl; first | decide | (simp only [List.length_cons, List.length_nil]; omega) | rotate_left) | (with_reducible apply e_yes) | ((with_reducible apply c_fk); exact rfl; (first | (simp only [restD, List.set_cons_zero, List.set_cons_succ, List.getElem?_cons_zero, List.getElem?_cons_succ, Option.getD_some]; exact rfl) | exact rfl)) | ((with_reducible apply gkT); first | (with_reducible apply t_nil) | ((with_reducible apply t_sh); exact rfl; (first | exact rfl | assumption); (first | (simp only [wipeD, List.set_cons_zero, List.set_cons_succ]; exact rfl) | exact rfl)) | ((with_reducible apply t_ow); (first | exact rfl | assumption); (first | (simp only [wipeD, List.set_cons_zero, List.set_cons_succ]; exact rfl) | exact rfl)) | ((with_reducible apply t_sub); exact rfl) | ((with_reducible apply t_gen); exact rfl) | ((with_reducible apply s_set); exact rfl; (first | exact rfl | assumption); (first | (simp only [wipeD, List.set_cons_zero, List.set_cons_succ]; exact rfl) | exact rfl)) | ((with_reducible apply g_name); (first | exact rfl | assumption); (first | (simp only [wipeD, List.set_cons_zero, List.set_cons_succ]; exact rfl) | exact rfl)) | (with_reducible apply g_cons) | (with_reducible apply g_Sub) | ((with_reducible apply g_sub); exact rfl; exact rfl) | ((with_reducible apply s_asg); exact rfl) | ((with_reducible apply s_setO); (first | exact rfl | assumption); (first | (simp only [wipeD, List.set_cons_zero, List.set_cons_succ]; exact rfl) | exact rfl)) | (with_reducible apply g_nil) | ((with_reducible apply g_tup); exact rfl) | ((with_reducible apply s_a1); exact rfl; first | exact atI_0 | exact atI_1 | exact atI_2 | exact atI_3 | exact atI_ints (by omega)) | ((with_reducible apply s_a2); exact rfl) | ((with_reducible apply s_setF); exact rfl; exact rfl; decide; exact rfl; exact rfl; exact rfl; (first | (simp only [wipeD, List.set_cons_zero, List.set_cons_succ]; exact rfl) | exact rfl)) | ((with_reducible apply s_setEv); (first | exact rfl | assumption); (first | (simp only [wipeD, List.set_cons_zero, List.set_cons_succ]; exact rfl) | exact rfl)) | ((with_reducible apply s_setEo); (first | exact rfl | assumption); (first | (simp only [wipeD, List.set_cons_zero, List.set_cons_succ]; exact rfl) | exact rfl)) | ((with_reducible apply g_unl); exact rfl) | ((with_reducible apply s_aug); exact rfl) | (with_reducible apply g_Slc) | (with_reducible apply g_All) | ((with_reducible apply g_all); exact rfl; (simp only [List.length_map, List.length_append, List.length_cons, List.length_nil] at *; omega); exact rfl; (first | (simp only [wipeD, List.set_cons_zero, List.set_cons_succ]; exact rfl) | exact rfl))) | ((with_reducible apply gkO); first | (with_reducible apply i_add) | ((with_reducible apply i_addL); first | (simp only [List.length_map, List.length_append, List.length_cons, List.length_nil] at *; omega) | rotate_left) | ((with_reducible apply i_addS); rotate_left) | (with_reducible apply i_sub) | ((with_reducible apply i_mul); first | exact mulOk_r (by decide) (by decide) | exact mulOk_l (by decide) (by decide) | exact mulOk_r (by omega) (by omega) | exact mulOk_l (by omega) (by omega) | rotate_left) | ((with_reducible apply i_mulR); omega) | ((with_reducible apply i_mod); first | decide | with_reducible assumption | omega | rotate_left) | (with_reducible apply i_eqI) | (with_reducible apply i_eqL) | (with_reducible apply i_eqT) | (with_reducible apply i_eqB) | (with_reducible apply i_gt) | (with_reducible apply i_lt) | (with_reducible apply i_ge) | ((with_reducible apply i_div); first | exact divW_of (by decide) (by decide) | exact divW_of (by omega) (by omega) | rotate_left) | ((with_reducible apply i_powN); (simp only [Int.reduceToNat]; exact rfl); exact ⟨by decide, by decide⟩) | ((with_reducible apply i_pow); first | exact ⟨by decide, by decide⟩ | rotate_left) | (with_reducible apply i_neI) | (with_reducible apply i_neL) | (with_reducible apply i_neT) | (with_reducible apply i_neB) | (with_reducible apply i_neg) | (with_reducible apply i_eqEmp) | (with_reducible apply i_neEmp) | (with_reducible apply i_addI) | (with_reducible apply i_le) | (with_reducible apply i_inSS) | (with_reducible apply i_subI) | (with_reducible apply i_isB) | (with_reducible apply i_isnB)) | ((with_reducible apply gkE); first | (with_reducible apply e_Call) | (with_reducible apply e_CB) | (with_reducible apply w_Comp) | (with_reducible apply e_Lst) | (with_reducible apply e_Fld) | ((with_reducible apply e_fld); exact rfl; first | exact fld_1 | exact fld_2 (by decide +kernel) | rotate_left) | (with_reducible apply e_Isi) | ((with_reducible apply e_isiT); exact rfl; exact rfl; exact rfl) | ((with_reducible apply e_isiF); exact rfl; exact rfl; exact rfl) | (with_reducible apply e_andV) | (with_reducible apply e_Tup) | (with_reducible apply e_Mut) | ((with_reducible apply e_mu0); exact rfl) | ((with_reducible apply e_mu1); exact rfl; exact rfl) | (with_reducible apply e_if) | (with_reducible apply e_un) | (with_reducible apply e_LRg) | ((with_reducible apply e_lrg); exact RgOk.of_le (by omega) (by omega) (by omega) (by omega)) | ((with_reducible apply e_isiTuT); exact rfl; exact rfl; exact rfl) | ((with_reducible apply e_isiTuF); exact rfl; exact rfl; exact rfl) | (with_reducible apply e_Sl) | (with_reducible apply e_Make) | (with_reducible apply e_notV) | (with_reducible apply e_notv) | (with_reducible apply e_IsiTu) | ((with_reducible apply e_xisTF); (first | exact rfl | decide +kernel)) | ((with_reducible apply e_xisTT); (first | exact rfl | decide +kernel)) | (with_reducible apply e_Chain) | (with_reducible apply e_ch1) | (with_reducible apply e_ch2) | ((with_reducible apply e_MakeL); exact rfl) | (with_reducible apply e_NeTO) | (with_reducible apply e_SortItems) | (with_reducible apply e_Count) | ((with_reducible apply e_cna); exact rfl; exact rfl) | ((with_reducible apply i_count); exact rfl; exact rfl) | (with_reducible apply e_Index) | ((with_reducible apply e_ida); exact rfl; exact rfl) | (with_reducible apply e_XisT) | (with_reducible apply e_orV) | (with_reducible apply e_RevL) | (with_reducible apply e_TRg) | (with_reducible apply e_SRg) | (with_reducible apply e_Dict0) | ((with_reducible apply e_revL); exact rfl) | (with_reducible apply w_SS) | (with_reducible apply w_Comp2) | (with_reducible apply e_ReprO) | (with_reducible apply e_LenO) | ((with_reducible apply e_reprO); exact rfl) | ((with_reducible apply e_lenO); exact rfl) | (with_reducible apply e_Fmt) | ((with_reducible apply e_fmtL); exact rfl; rotate_left) | (with_reducible apply e_Joined) | (with_reducible apply e_MutF) | (with_reducible apply e_mutF) | ((with_reducible apply w_ss); exact rfl; (first | omega | rotate_left); intro sset hsset hsset2) | (with_reducible apply e_IsO) | ((with_reducible apply e_isO); exact rfl; first | exact isO_self | exact rfl) | (with_reducible apply e_EqO) | ((with_reducible apply e_eqO); exact rfl; exact rfl) | ((with_reducible apply e_trg); exact RgOk.of_le (by omega) (by omega) (by omega) (by omega)) | ((with_reducible apply e_srg); exact RgOk.of_le (by omega) (by omega) (by omega) (by omega)) | ((with_reducible apply e_Bor); (first | (simp only [allSh, shS, List.map_cons, List.map_nil]; exact rfl) | exact rfl)) | ((with_reducible apply e_kb); exact rfl) | ((with_reducible apply e_ks); exact rfl) | ((with_reducible apply e_ko); exact rfl) | (with_reducible apply e_CallX) | (with_reducible apply e_Xis) | ((with_reducible apply e_xis); (first | exact rfl | decide +kernel)) | (with_reducible apply e_Xf) | ((with_reducible apply e_xf); (first | exact rfl | decide +kernel); (first | exact rfl | decide +kernel)) | (with_reducible apply e_DGet2) | (with_reducible apply e_DGet1) | (with_reducible apply e_Lock) | (with_reducible apply e_lkK) | (with_reducible apply e_lkT) | (with_reducible apply e_Dict1) | (with_reducible apply e_Dict0T) | (with_reducible apply e_Dict1T) | ((with_reducible apply e_g2a); exact rfl; exact rfl) | ((with_reducible apply e_g1a); exact rfl; exact rfl) | ((with_reducible apply e_d1); exact rfl; exact rfl) | ((with_reducible apply e_d1s); exact rfl; exact rfl) | ((with_reducible apply e_d1T); exact rfl; exact rfl) | (with_reducible apply e_EqX) | ((with_reducible apply e_eqX); exact rfl; exact rfl; exact rfl)) | ((with_reducible apply gkS); first | (with_reducible apply s_ret) | (with_reducible apply s_Set) | (with_reducible apply s_if) | (with_reducible apply s_next) | (with_reducible apply s_Par) | (with_reducible apply s_For) | (with_reducible apply s_Asg) | (with_reducible apply s_drop) | (with_reducible apply s_SetO) | (with_reducible apply s_Par3) | ((with_reducible apply s_frz); exact rfl) | (with_reducible apply s_AugS) | (with_reducible apply s_SetF) | (with_reducible apply s_brk) | (with_reducible apply s_cnt) | (with_reducible apply s_retN) | (with_reducible apply s_SetE) | ((with_reducible apply s_Aug); exact rfl) | (with_reducible apply s_Scr) | (with_reducible apply s_Raise) | (with_reducible apply s_TryAs) | (with_reducible apply s_Try) | (with_reducible apply s_DPut) | ((with_reducible apply s_frzL); exact rfl; exact rfl; (first | (simp only [wipeD, List.set_cons_zero, List.set_cons_succ]; exact rfl) | exact rfl))) | ((with_reducible apply gkB); first | (with_reducible apply i_lenI) | (with_reducible apply i_len) | (with_reducible apply i_lenTI) | (with_reducible apply i_lenT) | (with_reducible apply i_lenC) | ((with_reducible apply i_lenS); first | omega | with_reducible assumption | rotate_left) | (with_reducible apply i_min) | ((with_reducible apply i_minL); (first | omega | rotate_left); intro least hleast hleast2) | ((with_reducible apply i_minT); (first | omega | rotate_left); intro least hleast hleast2) | (with_reducible apply i_list) | (with_reducible apply i_listT) | (with_reducible apply i_listC) | (with_reducible apply i_abs) | (with_reducible apply i_int) | (with_reducible apply i_intB) | (with_reducible apply i_max) | ((with_reducible apply i_maxL); (first | omega | rotate_left); intro most hmost hmost2) | ((with_reducible apply i_maxT); (first | omega | rotate_left); intro most hmost hmost2) | (with_reducible apply i_all) | ((with_reducible apply i_divmod); first | exact ⟨by omega, by omega⟩ | rotate_left) | (with_reducible apply i_tuple) | (with_reducible apply i_tupleT) | (with_reducible apply i_sum) | (with_reducible apply i_sumT) | (with_reducible apply i_any) | (with_reducible apply i_repr0)) | ((with_reducible apply gkL); first | (with_reducible apply p_Cons) | ((with_reducible apply p_cons); exact rfl) | (with_reducible apply p_nil) | (with_reducible apply e_Self) | ((with_reducible apply e_self); exact rfl; decide +kernel) | (with_reducible apply e_Self1) | ((with_reducible apply e_self1); exact rfl) | (with_reducible apply e_PairO) | ((with_reducible apply e_pairO); exact rfl; exact rfl) | (with_reducible apply e_Cls) | (with_reducible apply e_Snoc)) | ((with_reducible apply gkW); first | (with_reducible apply w_Seq) | ((with_reducible apply w_seq); exact rfl; exact rfl) | (with_reducible apply w_Rng1) | ((with_reducible apply w_rng1); first | decide | omega | rotate_left) | (with_reducible apply w_SeqT) | ((with_reducible apply w_seqt); exact rfl) | (with_reducible apply w_Enum) | ((with_reducible apply w_enum); exact rfl; exact rfl) | (with_reducible apply w_Rng2) | ((with_reducible apply w_rng2); first | decide | omega | rotate_left) | (with_reducible apply w_Zip) | ((with_reducible apply w_zip); exact rfl; exact rfl) | (with_reducible apply w_Rev) | ((with_reducible apply w_rvd); exact rfl; exact rfl) | (with_reducible apply w_KeysW) | (with_reducible apply w_ItemsW) | (with_reducible apply w_ValsW) | ((with_reducible apply w_kw); intro dko dkv) | (with_reducible apply w_Rng3)) | ((with_reducible apply gkX); first | ((with_reducible apply i_take); with_reducible assumption; (first | decide | omega | rotate_left); (first | decide | omega | rotate_left); intro drawn bag hdrawn0 hdrawn1 hbag) | ((with_reducible apply i_bag); intro bag hbag) | ((with_reducible apply i_Rsize)) | ((with_reducible apply i_Rrank); (first | decide | with_reducible assumption | omega | (simp only [List.length_map, List.length_append, List.length_cons, List.length_nil] at *; omega) | rotate_left)) | ((with_reducible apply i_endof); (first | decide | with_reducible assumption | omega | (simp only [List.length_map, List.length_append, List.length_cons, List.length_nil] at *; omega) | rotate_left); (first | decide | with_reducible assumption | omega | (simp only [List.length_map, List.length_append, List.length_cons, List.length_nil] at *; omega) | rotate_left)) | ((with_reducible apply i_isint1)) | ((with_reducible apply i_sizeT); (first | decide | with_reducible assumption | omega | (simp only [List.length_map, List.length_append, List.length_cons, List.length_nil] at *; omega) | rotate_left); (first | decide | with_reducible assumption | omega | (simp only [List.length_map, List.length_append, List.length_cons, List.length_nil] at *; omega) | rotate_left)) | ((with_reducible apply i_Rinit); (first | decide | with_reducible assumption | omega | (simp only [List.length_map, List.length_append, List.length_cons, List.length_nil] at *; omega) | rotate_left); (first | decide | with_reducible assumption | omega | (simp only [List.length_map, List.length_append, List.length_cons, List.length_nil] at *; omega) | rotate_left)) | ((with_reducible apply i_standing); (first | decide | with_reducible assumption | omega | (simp only [List.length_map, List.length_append, List.length_cons, List.length_nil] at *; omega) | rotate_left)) | ((with_reducible apply i_sched); (first | decide | with_reducible assumption | omega | (simp only [List.length_map, List.length_append, List.length_cons, List.length_nil] at *; omega) | rotate_left); (first | decide | with_reducible assumption | omega | (simp only [List.length_map, List.length_append, List.length_cons, List.length_nil] at *; omega) | rotate_left); (first | decide | with_reducible assumption | omega | (simp only [List.length_map, List.length_append, List.length_cons, List.length_nil] at *; omega) | rotate_left); (first | decide | with_reducible assumption | omega | (simp only [List.length_map, List.length_append, List.length_cons, List.length_nil] at *; omega) | rotate_left); (first | decide | with_reducible assumption | omega | (simp only [List.length_map, List.length_append, List.length_cons, List.length_nil] at *; omega) | rotate_left); intro gaps bag hgapsl hgaps hbag) | ((with_reducible apply i_ranks); (first | decide | with_reducible assumption | omega | (simp only [List.length_map, List.length_append, List.length_cons, List.length_nil] at *; omega) | rotate_left); (first | decide | with_reducible assumption | omega | (simp only [List.length_map, List.length_append, List.length_cons, List.length_nil] at *; omega) | rotate_left); (first | decide | with_reducible assumption | omega | (simp only [List.length_map, List.length_append, List.length_cons, List.length_nil] at *; omega) | rotate_left); intro ranks bag hranksl hranksb hbag) | ((with_reducible apply i_some); (first | decide | with_reducible assumption | omega | (simp only [List.length_map, List.length_append, List.length_cons, List.length_nil] at *; omega) | rotate_left); (first | decide | with_reducible assumption | omega | (simp only [List.length_map, List.length_append, List.length_cons, List.length_nil] at *; omega) | rotate_left); (first | decide | with_reducible assumption | omega | (simp only [List.length_map, List.length_append, List.length_cons, List.length_nil] at *; omega) | rotate_left); intro size bag hsize0 hsize1 hbag)) | ((with_reducible apply g_set); exact rfl; (first | (simp only [wipeD, List.set_cons_zero, List.set_cons_succ]; exact rfl) | exact rfl)) | ((with_reducible apply i_stN); (first | omega | (simp only [List.length_set]; omega))) | ((with_reducible apply i_stP); omega; (first | omega | (simp only [List.length_set]; omega))) | ((with_reducible apply i_st); first | exact ixN_0 | exact ixN_1 | exact ixN_2 | exact ixN_3 | exact ixN_pos (by omega) (by omega)) | ((with_reducible apply e_tup); exact rfl; first | decide | (simp only [List.length_cons, List.length_nil]; omega) | rotate_left) | ((with_reducible apply e_st); exact rfl; (first | (simp only [wipeD, List.set_cons_zero, List.set_cons_succ]; exact rfl) | exact rfl)) | ((with_reducible apply i_appendI); first | omega | (simp only [List.length_append, List.length_cons, List.length_nil] at *; omega) | rotate_left) | ((with_reducible apply i_append); first | decide | omega | (simp only [List.length_map, List.length_append, List.length_cons, List.length_nil] at *; omega) | rotate_left) | ((with_reducible apply s_par3); exact rfl) | ((with_reducible apply c_ik); exact rfl; (first | omega | (simp only [List.length_append, List.length_cons, List.length_nil, List.length_map] at *; omega) | rotate_left); (first | (simp only [restD, List.set_cons_zero, List.set_cons_succ, List.getElem?_cons_zero, List.getElem?_cons_succ, Option.getD_some]; exact rfl) | exact rfl)) | (with_reducible apply e_Rg1) | (with_reducible apply e_rg1) | ((with_reducible apply e_op1); exact rfl) | ((with_reducible apply e_make); exact rfl; (first | exact rfl | decide); exact rfl) | ((with_reducible apply e_mak); exact rfl; (first | (simp only [wipeD, List.set_cons_zero, List.set_cons_succ]; exact rfl) | exact rfl)) | (with_reducible apply e_or) | (with_reducible apply e_not) | (with_reducible apply i_sl1) | (with_reducible apply i_slL) | (with_reducible apply i_slC) | (with_reducible apply e_noP) | (with_reducible apply e_Part) | (with_reducible apply e_part) | ((with_reducible apply e_sl); exact rfl) | ((with_reducible apply s_a3); exact rfl; (first | exact ixN_0 | exact ixN_1 | exact ixN_2 | exact ixN_3 | exact ixN_pos (by omega) (by omega)); exact rfl; (first | (simp only [wipeD, List.set_cons_zero, List.set_cons_succ]; exact rfl) | exact rfl)) | (with_reducible apply e_and) | (with_reducible apply i_reverse) | (with_reducible apply i_clear) | (with_reducible apply e_orv) | (with_reducible apply e_Rg2) | (with_reducible apply e_rg2) | ((with_reducible apply s_av); (first | exact rfl | assumption); (first | (simp only [wipeD, List.set_cons_zero, List.set_cons_succ]; exact rfl) | exact rfl)) | (with_reducible apply rpk_in) | ((with_reducible apply lnk_in); (first | omega | rotate_left); (first | omega | rotate_left)) | (with_reducible apply e_jsN) | (with_reducible apply e_Js) | ((with_reducible apply e_js); rotate_left) | ((with_reducible apply i_popI); omega; omega; omega) | ((with_reducible apply i_insert0); first | decide | omega | rotate_left) | (with_reducible apply e_eqkI) | (with_reducible apply e_eqkF) | (with_reducible apply e_eqkT) | (with_reducible apply e_eqk) | ((with_reducible apply e_bor); exact rfl) | ((with_reducible apply s_scr); exact rfl; (simp only [List.length_cons, List.length_nil]; omega); (first | exact rfl | (simp only [freeE, Bool.and_eq_true, Bool.and_true]; (repeat' constructor) <;> first | rfl | assumption)); decide; (first | (simp only [killE]; exact rfl) | exact rfl); (first | (simp only [boxE, boxS, List.set_cons_zero, List.set_cons_succ]; exact rfl) | exact rfl); rotate_left) | ((with_reducible apply b_nx); exact rfl) | ((with_reducible apply b_rt); exact rfl; exact rfl) | ((with_reducible apply e_callX); exact rfl; (first | exact rfl | decide); exact rfl) | ((with_reducible apply e_xt); exact rfl; (first | (simp only [wipeD, List.set_cons_zero, List.set_cons_succ]; exact rfl) | exact rfl)) | ((with_reducible apply s_raise); exact rfl; exact rfl; (simp only [List.length_cons, List.length_nil]; omega); exact rfl; exact rfl) | ((with_reducible apply d_x); exact rfl) | ((with_reducible apply x_T); (first | exact rfl | decide +kernel); exact rfl; intro xa xG hxG; simp only [List.set_cons_zero, List.set_cons_succ] at hxG; subst hxG) | ((with_reducible apply x_F); (first | exact rfl | decide +kernel)) | ((with_reducible apply y_T); (first | exact rfl | decide +kernel); intro xa) | ((with_reducible apply y_F); (first | exact rfl | decide +kernel)) | ((with_reducible apply u_nk); exact rfl; (first | (simp only [wipeD, List.set_cons_zero, List.set_cons_succ]; exact rfl) | exact rfl)) | ((with_reducible apply w_down); first | omega | rotate_left)))
set_option hygiene false in
local macro_rules | `(tactic| lcg_off) => `(tactic| repeat' (first | ((with_reducible apply e_V); exact rfl) | (with_reducible apply v_sh) | (with_reducible apply v_io) | (with_reducible apply v_ow) | (with_reducible apply v_bo) | ((with_reducible apply e_op2); exact rfl; exact rfl) | (with_reducible apply e_op) | (with_reducible apply e_cons) | (with_reducible apply e_C) | (with_reducible apply e_nil) | (with_reducible apply s_seq) | (with_reducible apply e_Tt) | (with_reducible apply e_Ff) | (with_reducible apply e_nTt) | (with_reducible apply e_nFf) | ((with_reducible apply e_dT); first | with_reducible assumption | omega | with_reducible rfl) | ((with_reducible apply e_dF); first | with_reducible assumption | omega | with_reducible rfl) | ((with_reducible apply e_nT); first | with_reducible assumption | omega | with_reducible rfl) | ((with_reducible apply e_nF); first | with_reducible assumption | omega | with_reducible rfl) | ((with_reducible apply i_ix); first | exact atI_0 | exact atI_1 | exact atI_2 | exact atI_3) | ((with_reducible apply i_ixT); first | exact atI_0 | exact atI_1 | exact atI_2 | exact atI_3) | ((with_reducible apply i_ix); first | exact atI_ints (by omega)) | ((with_reducible apply i_ixT); first | exact atI_ints (by omega)) | ((with_reducible apply e_ptV); exact rfl; (first | (simp only [wipeD, List.set_cons_zero, List.set_cons_succ]; exact rfl) | exact rfl)) | ((with_reducible apply e_ptF); exact rfl; (first | (simp only [wipeD, List.set_cons_zero, List.set_cons_succ]; exact rfl) | exact rfl)) | ((with_reducible apply d_val); exact rfl) | ((with_reducible apply d_fr); exact rfl) | ((with_reducible apply d_pl); exact rfl; exact rfl) | ((with_reducible apply e_call); exact rfl; (first | exact rfl | decide); exact rfl) | (with_reducible apply e_test) | (with_reducible apply e_tst) | ((with_reducible apply e_cb); exact rfl) | (with_reducible apply e_andv) | ((with_reducible apply e_lst); exact rfl; first | decide | (simp only [List.length_cons, List.length_nil]; omega) | rotate_left) | (with_reducible apply e_yes) | ((with_reducible apply c_fk); exact rfl; (first | (simp only [restD, List.set_cons_zero, List.set_cons_succ, List.getElem?_cons_zero, List.getElem?_cons_succ, Option.getD_some]; exact rfl) | exact rfl)) | ((with_reducible apply gkT); first | (with_reducible apply t_nil) | ((with_reducible apply t_sh); exact rfl; (first | exact rfl | assumption); (first | (simp only [wipeD, List.set_cons_zero, List.set_cons_succ]; exact rfl) | exact rfl)) | ((with_reducible apply t_ow); (first | exact rfl | assumption); (first | (simp only [wipeD, List.set_cons_zero, List.set_cons_succ]; exact rfl) | exact rfl)) | ((with_reducible apply t_sub); exact rfl) | ((with_reducible apply t_gen); exact rfl) | ((with_reducible apply s_set); exact rfl; (first | exact rfl | assumption); (first | (simp only [wipeD, List.set_cons_zero, List.set_cons_succ]; exact rfl) | exact rfl)) | ((with_reducible apply g_name); (first | exact rfl | assumption); (first | (simp only [wipeD, List.set_cons_zero, List.set_cons_succ]; exact rfl) | exact rfl)) | (with_reducible apply g_cons) | (with_reducible apply g_Sub) | ((with_reducible apply g_sub); exact rfl; exact rfl) | ((with_reducible apply s_asg); exact rfl) | ((with_reducible apply s_setO); (first | exact rfl | assumption); (first | (simp only [wipeD, List.set_cons_zero, List.set_cons_succ]; exact rfl) | exact rfl)) | (with_reducible apply g_nil) | ((with_reducible apply g_tup); exact rfl) | ((with_reducible apply s_a1); exact rfl; first | exact atI_0 | exact atI_1 | exact atI_2 | exact atI_3 | exact atI_ints (by omega)) | ((with_reducible apply s_a2); exact rfl) | ((with_reducible apply s_setF); exact rfl; exact rfl; decide; exact rfl; exact rfl; exact rfl; (first | (simp only [wipeD, List.set_cons_zero, List.set_cons_succ]; exact rfl) | exact rfl)) | ((with_reducible apply s_setEv); (first | exact rfl | assumption); (first | (simp only [wipeD, List.set_cons_zero, List.set_cons_succ]; exact rfl) | exact rfl)) | ((with_reducible apply s_setEo); (first | exact rfl | assumption); (first | (simp only [wipeD, List.set_cons_zero, List.set_cons_succ]; exact rfl) | exact rfl)) | ((with_reducible apply g_unl); exact rfl) | ((with_reducible apply s_aug); exact rfl) | (with_reducible apply g_Slc) | (with_reducible apply g_All) | ((with_reducible apply g_all); exact rfl; (simp only [List.length_map, List.length_append, List.length_cons, List.length_nil] at *; omega); exact rfl; (first | (simp only [wipeD, List.set_cons_zero, List.set_cons_succ]; exact rfl) | exact rfl))) | ((with_reducible apply gkO); first | (with_reducible apply i_add) | ((with_reducible apply i_addL); first | (simp only [List.length_map, List.length_append, List.length_cons, List.length_nil] at *; omega) | rotate_left) | ((with_reducible apply i_addS); rotate_left) | (with_reducible apply i_sub) | ((with_reducible apply i_mul); first | exact mulOk_r (by decide) (by decide) | exact mulOk_l (by decide) (by decide) | exact mulOk_r (by omega) (by omega) | exact mulOk_l (by omega) (by omega) | rotate_left) | ((with_reducible apply i_mulR); omega) | ((with_reducible apply i_mod); first | decide | with_reducible assumption | omega | rotate_left) | (with_reducible apply i_eqI) | (with_reducible apply i_eqL) | (with_reducible apply i_eqT) | (with_reducible apply i_eqB) | (with_reducible apply i_gt) | (with_reducible apply i_lt) | (with_reducible apply i_ge) | ((with_reducible apply i_div); first | exact divW_of (by decide) (by decide) | exact divW_of (by omega) (by omega) | rotate_left) | ((with_reducible apply i_powN); (simp only [Int.reduceToNat]; exact rfl); exact ⟨by decide, by decide⟩) | ((with_reducible apply i_pow); first | exact ⟨by decide, by decide⟩ | rotate_left) | (with_reducible apply i_neI) | (with_reducible apply i_neL) | (with_reducible apply i_neT) | (with_reducible apply i_neB) | (with_reducible apply i_neg) | (with_reducible apply i_eqEmp) | (with_reducible apply i_neEmp) | (with_reducible apply i_addI) | (with_reducible apply i_le) | (with_reducible apply i_inSS) | (with_reducible apply i_subI) | (with_reducible apply i_isB) | (with_reducible apply i_isnB)) | ((with_reducible apply gkE); first | (with_reducible apply e_Call) | (with_reducible apply e_CB) | (with_reducible apply w_Comp) | (with_reducible apply e_Lst) | (with_reducible apply e_Fld) | ((with_reducible apply e_fld); exact rfl; first | exact fld_1 | exact fld_2 (by decide +kernel) | rotate_left) | (with_reducible apply e_Isi) | ((with_reducible apply e_isiT); exact rfl; exact rfl; exact rfl) | ((with_reducible apply e_isiF); exact rfl; exact rfl; exact rfl) | (with_reducible apply e_andV) | (with_reducible apply e_Tup) | (with_reducible apply e_Mut) | ((with_reducible apply e_mu0); exact rfl) | ((with_reducible apply e_mu1); exact rfl; exact rfl) | (with_reducible apply e_if) | (with_reducible apply e_un) | (with_reducible apply e_LRg) | ((with_reducible apply e_lrg); exact RgOk.of_le (by omega) (by omega) (by omega) (by omega)) | ((with_reducible apply e_isiTuT); exact rfl; exact rfl; exact rfl) | ((with_reducible apply e_isiTuF); exact rfl; exact rfl; exact rfl) | (with_reducible apply e_Sl) | (with_reducible apply e_Make) | (with_reducible apply e_notV) | (with_reducible apply e_notv) | (with_reducible apply e_IsiTu) | ((with_reducible apply e_xisTF); (first | exact rfl | decide +kernel)) | ((with_reducible apply e_xisTT); (first | exact rfl | decide +kernel)) | (with_reducible apply e_Chain) | (with_reducible apply e_ch1) | (with_reducible apply e_ch2) | ((with_reducible apply e_MakeL); exact rfl) | (with_reducible apply e_NeTO) | (with_reducible apply e_SortItems) | (with_reducible apply e_Count) | ((with_reducible apply e_cna); exact rfl; exact rfl) | ((with_reducible apply i_count); exact rfl; exact rfl) | (with_reducible apply e_Index) | ((with_reducible apply e_ida); exact rfl; exact rfl) | (with_reducible apply e_XisT) | (with_reducible apply e_orV) | (with_reducible apply e_RevL) | (with_reducible apply e_TRg) | (with_reducible apply e_SRg) | (with_reducible apply e_Dict0) | ((with_reducible apply e_revL); exact rfl) | (with_reducible apply w_SS) | (with_reducible apply w_Comp2) | (with_reducible apply e_ReprO) | (with_reducible apply e_LenO) | ((with_reducible apply e_reprO); exact rfl) | ((with_reducible apply e_lenO); exact rfl) | (with_reducible apply e_Fmt) | ((with_reducible apply e_fmtL); exact rfl; rotate_left) | (with_reducible apply e_Joined) | (with_reducible apply e_MutF) | (with_reducible apply e_mutF) | ((with_reducible apply w_ss); exact rfl; (first | omega | rotate_left); intro sset hsset hsset2) | (with_reducible apply e_IsO) | ((with_reducible apply e_isO); exact rfl; first | exact isO_self | exact rfl) | (with_reducible apply e_EqO) | ((with_reducible apply e_eqO); exact rfl; exact rfl) | ((with_reducible apply e_trg); exact RgOk.of_le (by omega) (by omega) (by omega) (by omega)) | ((with_reducible apply e_srg); exact RgOk.of_le (by omega) (by omega) (by omega) (by omega)) | ((with_reducible apply e_Bor); (first | (simp only [allSh, shS, List.map_cons, List.map_nil]; exact rfl) | exact rfl)) | ((with_reducible apply e_kb); exact rfl) | ((with_reducible apply e_ks); exact rfl) | ((with_reducible apply e_ko); exact rfl) | (with_reducible apply e_CallX) | (with_reducible apply e_Xis) | ((with_reducible apply e_xis); (first | exact rfl | decide +kernel)) | (with_reducible apply e_Xf) | ((with_reducible apply e_xf); (first | exact rfl | decide +kernel); (first | exact rfl | decide +kernel)) | (with_reducible apply e_DGet2) | (with_reducible apply e_DGet1) | (with_reducible apply e_Lock) | (with_reducible apply e_lkK) | (with_reducible apply e_lkT) | (with_reducible apply e_Dict1) | (with_reducible apply e_Dict0T) | (with_reducible apply e_Dict1T) | ((with_reducible apply e_g2a); exact rfl; exact rfl) | ((with_reducible apply e_g1a); exact rfl; exact rfl) | ((with_reducible apply e_d1); exact rfl; exact rfl) | ((with_reducible apply e_d1s); exact rfl; exact rfl) | ((with_reducible apply e_d1T); exact rfl; exact rfl) | (with_reducible apply e_EqX) | ((with_reducible apply e_eqX); exact rfl; exact rfl; exact rfl)) | ((with_reducible apply gkS); first | (with_reducible apply s_ret) | (with_reducible apply s_Set) | (with_reducible apply s_if) | (with_reducible apply s_next) | (with_reducible apply s_Par) | (with_reducible apply s_For) | (with_reducible apply s_Asg) | (with_reducible apply s_drop) | (with_reducible apply s_SetO) | (with_reducible apply s_Par3) | ((with_reducible apply s_frz); exact rfl) | (with_reducible apply s_AugS) | (with_reducible apply s_SetF) | (with_reducible apply s_brk) | (with_reducible apply s_cnt) | (with_reducible apply s_retN) | (with_reducible apply s_SetE) | ((with_reducible apply s_Aug); exact rfl) | (with_reducible apply s_Scr) | (with_reducible apply s_Raise) | (with_reducible apply s_TryAs) | (with_reducible apply s_Try) | (with_reducible apply s_DPut) | ((with_reducible apply s_frzL); exact rfl; exact rfl; (first | (simp only [wipeD, List.set_cons_zero, List.set_cons_succ]; exact rfl) | exact rfl))) | ((with_reducible apply gkB); first | (with_reducible apply i_lenI) | (with_reducible apply i_len) | (with_reducible apply i_lenTI) | (with_reducible apply i_lenT) | (with_reducible apply i_lenC) | ((with_reducible apply i_lenS); first | omega | with_reducible assumption | rotate_left) | (with_reducible apply i_min) | ((with_reducible apply i_minL); (first | omega | rotate_left); intro least hleast hleast2) | ((with_reducible apply i_minT); (first | omega | rotate_left); intro least hleast hleast2) | (with_reducible apply i_list) | (with_reducible apply i_listT) | (with_reducible apply i_listC) | (with_reducible apply i_abs) | (with_reducible apply i_int) | (with_reducible apply i_intB) | (with_reducible apply i_max) | ((with_reducible apply i_maxL); (first | omega | rotate_left); intro most hmost hmost2) | ((with_reducible apply i_maxT); (first | omega | rotate_left); intro most hmost hmost2) | (with_reducible apply i_all) | ((with_reducible apply i_divmod); first | exact ⟨by omega, by omega⟩ | rotate_left) | (with_reducible apply i_tuple) | (with_reducible apply i_tupleT) | (with_reducible apply i_sum) | (with_reducible apply i_sumT) | (with_reducible apply i_any) | (with_reducible apply i_repr0)) | ((with_reducible apply gkL); first | (with_reducible apply p_Cons) | ((with_reducible apply p_cons); exact rfl) | (with_reducible apply p_nil) | (with_reducible apply e_Self) | ((with_reducible apply e_self); exact rfl; decide +kernel) | (with_reducible apply e_Self1) | ((with_reducible apply e_self1); exact rfl) | (with_reducible apply e_PairO) | ((with_reducible apply e_pairO); exact rfl; exact rfl) | (with_reducible apply e_Cls) | (with_reducible apply e_Snoc)) | ((with_reducible apply gkW); first | (with_reducible apply w_Seq) | ((with_reducible apply w_seq); exact rfl; exact rfl) | (with_reducible apply w_Rng1) | ((with_reducible apply w_rng1); first | decide | omega | rotate_left) | (with_reducible apply w_SeqT) | ((with_reducible apply w_seqt); exact rfl) | (with_reducible apply w_Enum) | ((with_reducible apply w_enum); exact rfl; exact rfl) | (with_reducible apply w_Rng2) | ((with_reducible apply w_rng2); first | decide | omega | rotate_left) | (with_reducible apply w_Zip) | ((with_reducible apply w_zip); exact rfl; exact rfl) | (with_reducible apply w_Rev) | ((with_reducible apply w_rvd); exact rfl; exact rfl) | (with_reducible apply w_KeysW) | (with_reducible apply w_ItemsW) | (with_reducible apply w_ValsW) | ((with_reducible apply w_kw); intro dko dkv) | (with_reducible apply w_Rng3)) | ((with_reducible apply gkX); first | ((with_reducible apply i_take); with_reducible assumption; (first | decide | omega | rotate_left); (first | decide | omega | rotate_left); intro drawn bag hdrawn0 hdrawn1 hbag) | ((with_reducible apply i_bag); intro bag hbag) | ((with_reducible apply i_Rsize)) | ((with_reducible apply i_Rrank); (first | decide | with_reducible assumption | omega | (simp only [List.length_map, List.length_append, List.length_cons, List.length_nil] at *; omega) | rotate_left)) | ((with_reducible apply i_endof); (first | decide | with_reducible assumption | omega | (simp only [List.length_map, List.length_append, List.length_cons, List.length_nil] at *; omega) | rotate_left); (first | decide | with_reducible assumption | omega | (simp only [List.length_map, List.length_append, List.length_cons, List.length_nil] at *; omega) | rotate_left)) | ((with_reducible apply i_isint1)) | ((with_reducible apply i_sizeT); (first | decide | with_reducible assumption | omega | (simp only [List.length_map, List.length_append, List.length_cons, List.length_nil] at *; omega) | rotate_left); (first | decide | with_reducible assumption | omega | (simp only [List.length_map, List.length_append, List.length_cons, List.length_nil] at *; omega) | rotate_left)) | ((with_reducible apply i_Rinit); (first | decide | with_reducible assumption | omega | (simp only [List.length_map, List.length_append, List.length_cons, List.length_nil] at *; omega) | rotate_left); (first | decide | with_reducible assumption | omega | (simp only [List.length_map, List.length_append, List.length_cons, List.length_nil] at *; omega) | rotate_left)) | ((with_reducible apply i_standing); (first | decide | with_reducible assumption | omega | (simp only [List.length_map, List.length_append, List.length_cons, List.length_nil] at *; omega) | rotate_left)) | ((with_reducible apply i_sched); (first | decide | with_reducible assumption | omega | (simp only [List.length_map, List.length_append, List.length_cons, List.length_nil] at *; omega) | rotate_left); (first | decide | with_reducible assumption | omega | (simp only [List.length_map, List.length_append, List.length_cons, List.length_nil] at *; omega) | rotate_left); (first | decide | with_reducible assumption | omega | (simp only [List.length_map, List.length_append, List.length_cons, List.length_nil] at *; omega) | rotate_left); (first | decide | with_reducible assumption | omega | (simp only [List.length_map, List.length_append, List.length_cons, List.length_nil] at *; omega) | rotate_left); (first | decide | with_reducible assumption | omega | (simp only [List.length_map, List.length_append, List.length_cons, List.length_nil] at *; omega) | rotate_left); intro gaps bag hgapsl hgaps hbag) | ((with_reducible apply i_ranks); (first | decide | with_reducible assumption | omega | (simp only [List.length_map, List.length_append, List.length_cons, List.length_nil] at *; omega) | rotate_left); (first | decide | with_reducible assumption | omega | (simp only [List.length_map, List.length_append, List.length_cons, List.length_nil] at *; omega) | rotate_left); (first | decide | with_reducible assumption | omega | (simp only [List.length_map, List.length_append, List.length_cons, List.length_nil] at *; omega) | rotate_left); intro ranks bag hranksl hranksb hbag) | ((with_reducible apply i_some); (first | decide | with_reducible assumption | omega | (simp only [List.length_map, List.length_append, List.length_cons, List.length_nil] at *; omega) | rotate_left); (first | decide | with_reducible assumption | omega | (simp only [List.length_map, List.length_append, List.length_cons, List.length_nil] at *; omega) | rotate_left); (first | decide | with_reducible assumption | omega | (simp only [List.length_map, List.length_append, List.length_cons, List.length_nil] at *; omega) | rotate_left); intro size bag hsize0 hsize1 hbag)) | ((with_reducible apply g_set); exact rfl; (first | (simp only [wipeD, List.set_cons_zero, List.set_cons_succ]; exact rfl) | exact rfl)) | ((with_reducible apply i_stN); (first | omega | (simp only [List.length_set]; omega))) | ((with_reducible apply i_stP); omega; (first | omega | (simp only [List.length_set]; omega))) | ((with_reducible apply i_st); first | exact ixN_0 | exact ixN_1 | exact ixN_2 | exact ixN_3 | exact ixN_pos (by omega) (by omega)) | ((with_reducible apply e_tup); exact rfl; first | decide | (simp only [List.length_cons, List.length_nil]; omega) | rotate_left) | ((with_reducible apply e_st); exact rfl; (first | (simp only [wipeD, List.set_cons_zero, List.set_cons_succ]; exact rfl) | exact rfl)) | ((with_reducible apply i_appendI); first | omega | (simp only [List.length_append, List.length_cons, List.length_nil] at *; omega) | rotate_left) | ((with_reducible apply i_append); first | decide | omega | (simp only [List.length_map, List.length_append, List.length_cons, List.length_nil] at *; omega) | rotate_left) | ((with_reducible apply s_par3); exact rfl) | ((with_reducible apply c_ik); exact rfl; (first | omega | (simp only [List.length_append, List.length_cons, List.length_nil, List.length_map] at *; omega) | rotate_left); (first | (simp only [restD, List.set_cons_zero, List.set_cons_succ, List.getElem?_cons_zero, List.getElem?_cons_succ, Option.getD_some]; exact rfl) | exact rfl)) | (with_reducible apply e_Rg1) | (with_reducible apply e_rg1) | ((with_reducible apply e_op1); exact rfl) | ((with_reducible apply e_make); exact rfl; (first | exact rfl | decide); exact rfl) | ((with_reducible apply e_mak); exact rfl; (first | (simp only [wipeD, List.set_cons_zero, List.set_cons_succ]; exact rfl) | exact rfl)) | (with_reducible apply e_or) | (with_reducible apply e_not) | (with_reducible apply i_sl1) | (with_reducible apply i_slL) | (with_reducible apply i_slC) | (with_reducible apply e_noP) | (with_reducible apply e_Part) | (with_reducible apply e_part) | ((with_reducible apply e_sl); exact rfl) | ((with_reducible apply s_a3); exact rfl; (first | exact ixN_0 | exact ixN_1 | exact ixN_2 | exact ixN_3 | exact ixN_pos (by omega) (by omega)); exact rfl; (first | (simp only [wipeD, List.set_cons_zero, List.set_cons_succ]; exact rfl) | exact rfl)) | (with_reducible apply e_and) | (with_reducible apply i_reverse) | (with_reducible apply i_clear) | (with_reducible apply e_orv) | (with_reducible apply e_Rg2) | (with_reducible apply e_rg2) | ((with_reducible apply s_av); (first | exact rfl | assumption); (first | (simp only [wipeD, List.set_cons_zero, List.set_cons_succ]; exact rfl) | exact rfl)) | (with_reducible apply rpk_in) | ((with_reducible apply lnk_in); (first | omega | rotate_left); (first | omega | rotate_left)) | (with_reducible apply e_jsN) | (with_reducible apply e_Js) | ((with_reducible apply e_js); rotate_left) | ((with_reducible apply i_popI); omega; omega; omega) | ((with_reducible apply i_insert0); first | decide | omega | rotate_left) | (with_reducible apply e_eqkI) | (with_reducible apply e_eqkF) | (with_reducible apply e_eqkT) | (with_reducible apply e_eqk) | ((with_reducible apply e_bor); exact rfl) | ((with_reducible apply s_scr); exact rfl; (simp only [List.length_cons, List.length_nil]; omega); (first | exact rfl | (simp only [freeE, Bool.and_eq_true, Bool.and_true]; (repeat' constructor) <;> first | rfl | assumption)); decide; (first | (simp only [killE]; exact rfl) | exact rfl); (first | (simp only [boxE, boxS, List.set_cons_zero, List.set_cons_succ]; exact rfl) | exact rfl); rotate_left) | ((with_reducible apply b_nx); exact rfl) | ((with_reducible apply b_rt); exact rfl; exact rfl) | ((with_reducible apply e_callX); exact rfl; (first | exact rfl | decide); exact rfl) | ((with_reducible apply e_xt); exact rfl; (first | (simp only [wipeD, List.set_cons_zero, List.set_cons_succ]; exact rfl) | exact rfl)) | ((with_reducible apply s_raise); exact rfl; exact rfl; (simp only [List.length_cons, List.length_nil]; omega); exact rfl; exact rfl) | ((with_reducible apply d_x); exact rfl) | ((with_reducible apply x_T); (first | exact rfl | decide +kernel); exact rfl; intro xa xG hxG; simp only [List.set_cons_zero, List.set_cons_succ] at hxG; subst hxG) | ((with_reducible apply x_F); (first | exact rfl | decide +kernel)) | ((with_reducible apply y_T); (first | exact rfl | decide +kernel); intro xa) | ((with_reducible apply y_F); (first | exact rfl | decide +kernel)) | ((with_reducible apply u_nk); exact rfl; (first | (simp only [wipeD, List.set_cons_zero, List.set_cons_succ]; exact rfl) | exact rfl)) | ((with_reducible apply w_down); first | omega | rotate_left) | ((with_reducible apply gkP); first | (with_reducible refine e_dif (fun hcond => ?_) (fun hcond => ?_)) | (with_reducible refine e_nif (fun hcond => ?_) (fun hcond => ?_)) | (with_reducible refine e_ite (fun hcond => ?_) (fun hcond => ?_)))))
local macro_rules | `(tactic| lcg_src) => `(tactic| (rw [endsD_mk]; simp only [startD, env0, sl0, List.length_cons, List.length_nil, Nat.reduceAdd, Nat.reduceSub, List.replicate, List.cons_append, List.nil_append]))
/-- on the endless line a copy passes those that begin farther on -/
def passE (t : List Int) (g : Nat) : Bool := decide (ig t (g : Int) ≤ ig t (nxP t.length g : Nat) + shP t.length g)
def callE (t : List Int) (g : Nat) : List Int := if passE t g = true then swapT t g else t
def runE : List Int → List Int → List Int
  | [], t => t
  | g :: gs, t => runE gs (callE t g.toNat)
def usefulE : List Int → List Int → Int → List Int
  | [], _, _ => []
  | g :: gs, t, k => if passE t g.toNat = true then k :: usefulE gs (callE t g.toNat) (k + 1) else usefulE gs (callE t g.toNat) (k + 1)
theorem callE_len (t : List Int) (g : Nat) : (callE t g).length = t.length := by
  unfold callE; split
  · exact swapT_len t g
  · rfl
theorem _root_.DL.Out.callE {n : Nat} {t : List Int} (O : Out n t) (h2 : 2 ≤ n) {g : Nat} (hg : g < n) : Out n (callE t g) := by
  unfold LW.callE; split
  · exact O.swap h2 hg
  · exact O
theorem out_runE {n : Nat} (h2 : 2 ≤ n) : ∀ (gs t : List Int), (∀ g ∈ gs, 0 ≤ g ∧ g < n) → Out n t → Out n (runE gs t)
  | [], _, _, O => O
  | g :: gs, t, h, O => by
    have := h g (List.mem_cons_self ..)
    exact out_runE h2 gs _ (fun x hx => h x (List.mem_cons_of_mem _ hx)) (O.callE h2 (by omega))
theorem endAt_next {t : List Int} {g : Nat} (h2 : 2 ≤ t.length) (hg : g < t.length) : endAt t ((g : Int) + 1) = ig t (nxP t.length g : Nat) + shP t.length g := by
  unfold endAt nxP shP
  by_cases h : g + 1 < t.length
  · rw [if_pos h, if_pos h, Int.emod_eq_of_lt (by omega) (by omega), Int.ediv_eq_zero_of_lt (by omega) (by omega)]
    have : (g : Int) + 1 = ((g + 1 : Nat) : Int) := by omega
    rw [this]; omega
  · have e : (g : Int) + 1 = 1 * t.length := by omega
    rw [if_neg h, if_neg h, e, Int.mul_emod_left, Int.mul_ediv_cancel _ (by omega), Int.one_mul]
    rfl
theorem shP_div {n g : Nat} (hg : g < n) : ((g : Int) + 1) / n * n = shP n g := by
  unfold shP
  by_cases h : g + 1 < n
  · rw [if_pos h, Int.ediv_eq_zero_of_lt (by omega) (by omega)]; omega
  · rw [if_neg h, show (g : Int) + 1 = 1 * n by omega, Int.mul_ediv_cancel _ (by omega)]; omega
theorem nxP_mod {n g : Nat} (hg : g < n) : ((g : Int) + 1) % n = (nxP n g : Nat) := by
  unfold nxP
  by_cases h : g + 1 < n
  · rw [if_pos h, Int.emod_eq_of_lt (by omega) (by omega)]; omega
  · rw [if_neg h, show (g : Int) + 1 = 1 * n by omega, Int.mul_emod_left]; rfl
/-- the line at a, its list at q -/
def LineAt (C : Addr) (H : Hp) (a dx q : Addr) (t : List Int) : Prop := H a = some (.ins C dx [("there", .ref q)]) ∧ H q = some (.lst (t.map V.int)) ∧ a ≠ q
theorem LineAt.put {C : Addr} {H : Hp} {a dx q : Addr} {t t' : List Int} (L : LineAt C H a dx q t) : LineAt C (upd H q (.lst (t'.map V.int))) a dx q t' := ⟨by rw [upd_ne L.2.2]; exact L.1, upd_same, L.2.2⟩
theorem sum_one (i : Nat) (a : Int) : ∀ n : Nat, ((List.range n).map fun k => if k = i then a else 0).sum = if i < n then a else 0
  | 0 => rfl
  | n + 1 => by
    rw [List.range_succ, List.map_append, List.sum_append, sum_one i a n, List.map_singleton, List.sum_singleton]
    by_cases h : n = i
    · subst h
      rw [if_neg (by omega), if_pos rfl, if_pos (by omega)]; omega
    · rw [if_neg h]
      by_cases h2 : i < n
      · rw [if_pos h2, if_pos (by omega)]; omega
      · rw [if_neg h2, if_neg (by omega)]; rfl
theorem sum_addK (f g : Nat → Int) : ∀ l : List Nat, (l.map fun k => f k + g k).sum = (l.map f).sum + (l.map g).sum
  | [] => rfl
  | x :: l => by
    rw [List.map_cons, List.sum_cons, sum_addK f g l, List.map_cons, List.sum_cons, List.map_cons, List.sum_cons]; omega
theorem sum_two {n i j : Nat} {F : Nat → Int} (hi : i < n) (hj : j < n) (hij : i ≠ j) (h0 : ∀ k, k < n → k ≠ i → k ≠ j → F k = 0) : ((List.range n).map F).sum = F i + F j := by
  have e : (List.range n).map F = (List.range n).map fun k => (if k = i then F i else 0) + (if k = j then F j else 0) := List.map_congr_left fun k hk => by
    have hk := List.mem_range.mp hk
    by_cases h1 : k = i
    · subst h1; rw [if_pos rfl, if_neg hij]; omega
    · rw [if_neg h1]
      by_cases h2 : k = j
      · subst h2; rw [if_pos rfl]; omega
      · rw [if_neg h2, h0 k hk h1 h2]; rfl
  rw [e, sum_addK, sum_one, sum_one, if_pos hi, if_pos hj]
theorem map_places {n : Nat} {t : List Int} (hl : t.length = n) (h : Int → Int) : t.map h = (List.range n).map fun p => h (ig t ((p : Nat) : Int)) := by
  refine List.ext_getElem (by rw [List.length_map, List.length_map, List.length_range, hl]) fun i h1 h2 => ?_
  rw [List.getElem_map, List.getElem_map, List.getElem_range, ig_get (by rw [List.length_map] at h1; exact h1)]
/-! levels: what a schedule does to the counts of strong persons -/
/-- one call of gap k -/
def stH (n : Nat) (k : Int) (H : Int → Int) : Int → Int := fun g => if (g - k) % (n : Int) = 0 then min (H (g - 1)) (H (g + 1) + 1) else H g
def ruH (n : Nat) : List Int → (Int → Int) → (Int → Int)
  | [], H => H
  | k :: gs, H => ruH n gs (stH n k H)
/-- steps of 0 or 1 down -/
def StB (H : Int → Int) : Prop := ∀ g, H g ≤ H (g - 1) ∧ H (g - 1) ≤ H g + 1
/-- c down with each lap -/
def LpB (n : Nat) (c : Int) (H : Int → Int) : Prop := ∀ g, H (g + n) = H g - c
theorem sub1_mod {n : Nat} (h2 : 2 ≤ n) {x : Int} (h : x % (n : Int) = 0) : ¬ (x - 1) % (n : Int) = 0 := fun z => by
  have e : x % (n : Int) = (x - 1) % (n : Int) := by rw [h, z]
  have := emod_sub_zero e
  rw [show x - (x - 1) = 1 by omega, Int.emod_eq_of_lt (by omega) (by omega)] at this
  omega
theorem StB.st {n : Nat} (h2 : 2 ≤ n) {H : Int → Int} (S : StB H) (k : Int) : StB (stH n k H) := fun g => by
  have a := S g
  have b := S (g - 1)
  have c := S (g + 1)
  rw [show g + 1 - 1 = g by omega] at c
  unfold stH
  by_cases h : (g - k) % (n : Int) = 0
  · have h1 : ¬ (g - 1 - k) % (n : Int) = 0 := by rw [show g - 1 - k = g - k - 1 by omega]; exact sub1_mod h2 h
    rw [if_pos h, if_neg h1]; omega
  · rw [if_neg h]
    by_cases h1 : (g - 1 - k) % (n : Int) = 0
    · rw [if_pos h1, show g - 1 + 1 = g by omega]; omega
    · rw [if_neg h1]; exact a
theorem LpB.st {n : Nat} {c : Int} {H : Int → Int} (L : LpB n c H) (k : Int) : LpB n c (stH n k H) := fun g => by
  have a := L (g - 1)
  have b := L (g + 1)
  have d := L g
  have e : (g + n - k) % (n : Int) = (g - k) % n := by
    rw [show g + n - k = g - k + n by omega, Int.add_emod_right]
  unfold stH
  rw [e, show g + (n : Int) - 1 = g - 1 + n by omega, show g + (n : Int) + 1 = g + 1 + n by omega, a, b, d]
  split <;> omega
theorem stH_add (n : Nat) (k a : Int) (H : Int → Int) : stH n k (fun g => a + H g) = fun g => a + stH n k H g := by
  funext g
  unfold stH
  dsimp only
  split <;> omega
theorem ruH_add (n : Nat) : ∀ (gs : List Int) (a : Int) (H : Int → Int), ruH n gs (fun g => a + H g) = fun g => a + ruH n gs H g
  | [], _, _ => rfl
  | k :: gs, a, H => by rw [ruH, stH_add, ruH_add n gs]; rfl
theorem stH_mono {n : Nat} {k a : Int} {H J : Int → Int} (h : ∀ g, H g ≤ J g + a) (g : Int) : stH n k H g ≤ stH n k J g + a := by
  have x := h (g - 1)
  have y := h (g + 1)
  have z := h g
  unfold stH
  split <;> omega
theorem StB.up {H : Int → Int} (S : StB H) (n : Nat) (k g : Int) : H g ≤ stH n k H g ∧ stH n k H g ≤ H g + 1 := by
  have a := S g
  have c := S (g + 1)
  rw [show g + 1 - 1 = g by omega] at c
  unfold stH
  split <;> omega
/-- the least of some -/
def IsMn {ι : Type} (F : ι → Int) (a : Int) : Prop := (∀ i, a ≤ F i) ∧ ∃ i, a = F i
theorem IsMn.uniq {ι : Type} {F : ι → Int} {a b : Int} (h1 : IsMn F a) (h2 : IsMn F b) : a = b := by
  obtain ⟨l1, i, e1⟩ := h1
  obtain ⟨l2, j, e2⟩ := h2
  have := l1 j
  have := l2 i
  omega
theorem IsMn.st {ι : Type} {F : ι → Int → Int} {G : Int → Int} (h : ∀ g, IsMn (fun i => F i g) (G g)) (n : Nat) (k : Int) : ∀ g, IsMn (fun i => stH n k (F i) g) (stH n k G g) := fun g => by
  unfold stH
  by_cases hc : (g - k) % (n : Int) = 0
  · simp only [if_pos hc]
    obtain ⟨l1, i1, e1⟩ := h (g - 1)
    obtain ⟨l2, i2, e2⟩ := h (g + 1)
    refine ⟨fun i => ?_, ?_⟩
    · have := l1 i
      have := l2 i
      dsimp only at *; omega
    · by_cases hm : G (g - 1) ≤ G (g + 1) + 1
      · refine ⟨i1, ?_⟩
        have := l2 i1
        dsimp only at *; omega
      · refine ⟨i2, ?_⟩
        have := l1 i2
        dsimp only at *; omega
  · simp only [if_neg hc]
    exact h g
theorem IsMn.ru {ι : Type} (n : Nat) : ∀ (gs : List Int) {F : ι → Int → Int} {G : Int → Int}, (∀ g, IsMn (fun i => F i g) (G g)) → ∀ g, IsMn (fun i => ruH n gs (F i) g) (ruH n gs G g)
  | [], _, _, h => h
  | k :: gs, _, _, h => IsMn.ru n gs (IsMn.st h n k)
/-! ### a ring's levels -/
/-- less the net number of strong persons up to a gap -/
def hT (n : Nat) (r : List Int) (b : Int) (t : List Int) (g : Int) : Int := ((List.range n).map fun (p : Nat) => if b ≤ rkP r (ig t (p : Int)) then -((g - p) / (n : Int) + 1 + ig t (p : Int) / (n : Int)) else 0).sum
theorem perm_places {n : Nat} {t : List Int} (O : Out n t) (f : Int → Int) : ((List.range n).map fun (p : Nat) => f (ig t (p : Int) % n)).sum = ((iota n).map f).sum := by
  have h := perm_sum (O.perm.map f)
  rw [List.map_map, map_places O.len] at h
  exact h
theorem sub_sum (f h : Nat → Int) (l : List Nat) : (l.map fun p => f p - h p).sum = (l.map f).sum - (l.map h).sum := sum_map_sub l f h
theorem sh_div {n k : Nat} (h0 : 0 < n) (x : Int) : (x + shP n k) / n = x / n + shP n k / n ∧ (x - shP n k) / n = x / n - shP n k / n := by
  unfold shP
  split
  · simp
  · rw [Int.ediv_self (by omega)]
    refine ⟨?_, ?_⟩
    · have := Int.add_mul_ediv_right x 1 (show (n : Int) ≠ 0 by omega)
      rw [Int.one_mul] at this; exact this
    · have := Int.add_mul_ediv_right x (-1) (show (n : Int) ≠ 0 by omega)
      rw [Int.neg_mul, Int.one_mul] at this
      rw [Int.sub_eq_add_neg]; omega
theorem nx_sh {n k : Nat} (hk : k < n) : ((nxP n k : Nat) : Int) = k + 1 - shP n k := by
  unfold nxP shP
  split <;> omega
/-- who stands at a gap that is called, and behind it -/
theorem at_gap {n : Nat} {t : List Int} (hl : t.length = n) (h2 : 2 ≤ n) {k : Nat} (hk : k < n) {g : Int} (h : (g - k) % (n : Int) = 0) : ∃ j : Int, g = k + j * n ∧ endAt t g = ig t (k : Int) + j * n ∧ endAt t (g + 1) = ig t (nxP n k : Nat) + shP n k + j * n := by
  refine ⟨(g - k) / n, ?_, ?_, ?_⟩
  · have := Int.emod_add_mul_ediv (g - k) n
    rw [Int.mul_comm] at this; omega
  all_goals
    have e : g = k + (g - k) / n * n := by
      have := Int.emod_add_mul_ediv (g - k) n
      rw [Int.mul_comm] at this; omega
    generalize (g - k) / (n : Int) = j at e
    subst e
  · have := endAt_lap t k j (by omega)
    rw [hl] at this
    rw [this, endAt_nat (by omega)]
  · have := endAt_lap t ((k : Int) + 1) j (by omega)
    rw [hl] at this
    rw [show (k : Int) + j * n + 1 = k + 1 + j * n by omega, this]
    have := endAt_next (t := t) (g := k) (by omega) (by omega)
    rw [this, hl]
/-! levels and the endless line -/
/-- how many begin up to b and end after e, by places -/
def cT (n : Nat) (t : List Int) (b e : Int) : Int := ((List.range n).map fun (q : Nat) => max 0 ((b - ig t (q : Int)) / (n : Int) - (e - q) / (n : Int))).sum
theorem carrO_cT {n : Nat} {t : List Int} (O : Out n t) (h0 : 0 < n) (b e : Int) : carrO (invO t) b e = cT n t b e := by
  have hl : (invO t).length = n := by rw [invO_len, O.len]
  rw [carrO_sum, hl]
  have h1 := perm_places O fun x => carr1 n b e x (ig (invO t) x)
  rw [sum_iota] at h1
  have h1 : ((List.range n).map fun (i : Nat) => carr1 n b e i (ig (invO t) (i : Int))).sum = ((List.range n).map fun (p : Nat) => carr1 n b e (ig t (p : Int) % n) (ig (invO t) (ig t (p : Int) % n))).sum := h1.symm
  rw [h1]
  unfold cT
  refine DL.sum_congr fun p hp => ?_
  rw [O.inv_at hp]
  unfold carr1
  have e1 : b - ig t (p : Int) = (b - ig t (p : Int) % n) + (-(ig t (p : Int) / n)) * n := by
    have := Int.emod_add_mul_ediv (ig t (p : Int)) n
    rw [Int.mul_comm] at this
    rw [Int.neg_mul]; omega
  have e2 : e - ((p : Int) - ig t (p : Int) / n * n) = (e - p) + (ig t (p : Int) / n) * n := by omega
  rw [e1, e2, Int.add_mul_ediv_right _ _ (by omega), Int.add_mul_ediv_right _ _ (by omega)]
  congr 1
  omega
theorem cT_step {n : Nat} {t : List Int} (O : Out n t) (h0 : 0 < n) (b e : Int) : cT n t b (e - 1) = cT n t b e + boI (decide (endAt t e ≤ b)) := by
  have := carrO_end O.inv h0 b e
  rw [O.inv_inv, carrO_cT O h0, carrO_cT O h0] at this
  exact this
theorem cT_swap {n : Nat} {t : List Int} (hl : t.length = n) (h2 : 2 ≤ n) (b e : Int) {k : Nat} (hk : k < n) : cT n (swapT t k) b e = cT n t b e + if (e - k) % (n : Int) = 0 then boI (decide (ig t (k : Int) + (e - k) ≤ b)) - boI (decide (ig t (nxP n k : Nat) + shP n k + (e - k) ≤ b)) else 0 := by
  have hx := nxP_lt (n := n) (g := k) (by omega)
  have hne := nxP_ne h2 hk
  have h0 : 0 < n := by omega
  have hd : ((List.range n).map fun (q : Nat) => max 0 ((b - ig (swapT t k) (q : Int)) / (n : Int) - (e - q) / (n : Int)) - max 0 ((b - ig t (q : Int)) / (n : Int) - (e - q) / (n : Int))).sum = _ := sum_two hk hx (Ne.symm hne) fun p _ h1 h3 => by
    have e := swapT_at hl hk p
    rw [if_neg (fun z => h3 z.symm), if_neg (fun z => h1 z.symm)] at e
    rw [e]; omega
  rw [sub_sum] at hd
  have e1 : ig (swapT t k) (k : Int) = ig t (nxP n k : Nat) + shP n k := by rw [swapT_at hl hk, if_neg hne, if_pos rfl]
  have e2 : ig (swapT t k) (nxP n k : Nat) = ig t (k : Int) - shP n k := by rw [swapT_at hl hk, if_pos rfl]
  have q1 : (e - ((nxP n k : Nat) : Int)) / (n : Int) = (e - k - 1) / n + shP n k / n := by
    rw [nx_sh hk, show e - ((k : Int) + 1 - shP n k) = (e - k - 1) + shP n k by omega]; exact (sh_div h0 _).1
  have q2 : (b - (ig t (k : Int) - shP n k)) / (n : Int) = (b - ig t (k : Int)) / n + shP n k / n := by
    rw [show b - (ig t (k : Int) - shP n k) = (b - ig t (k : Int)) + shP n k by omega]; exact (sh_div h0 _).1
  have q3 : (b - (ig t (nxP n k : Nat) + shP n k)) / (n : Int) = (b - ig t (nxP n k : Nat)) / n - shP n k / n := by
    rw [show b - (ig t (nxP n k : Nat) + shP n k) = (b - ig t (nxP n k : Nat)) - shP n k by omega]; exact (sh_div h0 _).2
  rw [e1, e2, q1, q2, q3] at hd
  unfold cT
  have m1 : (ig t (k : Int) + (e - k) ≤ b) ↔ (e - k ≤ b - ig t (k : Int)) := by omega
  have m2 : (ig t (nxP n k : Nat) + shP n k + (e - k) ≤ b) ↔ (e - k ≤ b - (ig t (nxP n k : Nat) + shP n k)) := by omega
  have hsd : shP n k / (n : Int) * n = shP n k := by
    unfold shP; split
    · simp
    · rw [Int.ediv_self (by omega)]; omega
  have key : (e - k) % (n : Int) = 0 → ∀ x : Int, (e - k ≤ x) ↔ ((e - k) / (n : Int) ≤ x / n) := fun h x => by
    have := Int.emod_add_mul_ediv (e - k) n
    rw [Int.le_ediv_iff_mul_le (by omega)]
    rw [Int.mul_comm] at this
    omega
  generalize ((List.range n).map fun (q : Nat) => max 0 ((b - ig (swapT t k) (q : Int)) / (n : Int) - (e - q) / (n : Int))).sum = S1 at hd ⊢
  generalize ((List.range n).map fun (q : Nat) => max 0 ((b - ig t (q : Int)) / (n : Int) - (e - q) / (n : Int))).sum = S0 at hd ⊢
  have q4 : (e - k - 1) / (n : Int) = if (e - k) % (n : Int) = 0 then (e - k) / (n : Int) - 1 else (e - k) / (n : Int) := by
    split
    · rename_i h; exact ediv_pred0 h0 h
    · rename_i h; exact ediv_pred h0 h
  rw [q4] at hd
  unfold boI
  simp only [decide_eq_true_eq]
  by_cases hg : (e - k) % (n : Int) = 0
  · simp only [if_pos hg] at hd ⊢
    have k1 := key hg (b - ig t (k : Int))
    have k2 := key hg (b - (ig t (nxP n k : Nat) + shP n k))
    rw [q3] at k2
    simp only [m1, m2, k1, k2]
    clear k1 k2 key m1 m2 e1 e2 q1 q2 q3 q4
    generalize (b - ig t (k : Int)) / (n : Int) = U at hd ⊢
    generalize (b - ig t (nxP n k : Nat)) / (n : Int) = V at hd ⊢
    generalize (e - k) / (n : Int) = E at hd ⊢
    generalize shP n k / (n : Int) = sh at hd ⊢
    split <;> split <;> omega
  · simp only [if_neg hg] at hd ⊢
    omega
theorem cT_call {n : Nat} {t : List Int} (O : Out n t) (h2 : 2 ≤ n) (b : Int) {k : Nat} (hk : k < n) : cT n (callE t k) b = stH n k (cT n t b) := by
  have hl := O.len
  funext g
  unfold stH
  have hpass : (passE t k = true) = (ig t (k : Int) ≤ ig t (nxP n k : Nat) + shP n k) := by
    unfold passE
    rw [hl, decide_eq_true_eq]
  have hsw := cT_swap hl h2 b g hk
  by_cases hg : (g - k) % (n : Int) = 0
  · rw [if_pos hg] at hsw ⊢
    obtain ⟨j, ej, e1, e2⟩ := at_gap hl h2 hk hg
    have s1 := cT_step O (by omega) b g
    have s2 := cT_step O (by omega) b (g + 1)
    rw [e1] at s1
    rw [e2, show g + 1 - 1 = g by omega] at s2
    rw [show g - (k : Int) = j * n by omega] at hsw
    unfold callE boI at *
    simp only [decide_eq_true_eq] at *
    by_cases hp : ig t (k : Int) ≤ ig t (nxP n k : Nat) + shP n k
    · rw [if_pos (hpass.mpr hp), hsw]
      generalize j * (n : Int) = jn at *
      by_cases c1 : ig t (nxP n k : Nat) + shP n k + jn ≤ b <;> by_cases c2 : ig t (k : Int) + jn ≤ b <;> simp only [c1, c2, if_true, if_false] at s1 s2 ⊢ <;> omega
    · rw [if_neg (fun z => hp (hpass.mp z))]
      generalize j * (n : Int) = jn at *
      by_cases c1 : ig t (nxP n k : Nat) + shP n k + jn ≤ b <;> by_cases c2 : ig t (k : Int) + jn ≤ b <;> simp only [c1, c2, if_true, if_false] at s1 s2 ⊢ <;> omega
  · rw [if_neg hg] at hsw ⊢
    unfold callE
    split
    · omega
    · rfl
theorem cT_run {n : Nat} (h2 : 2 ≤ n) (b : Int) : ∀ (gs t : List Int), Out n t → (∀ x ∈ gs, 0 ≤ x ∧ x < n) → cT n (runE gs t) b = ruH n gs (cT n t b)
  | [], _, _, _ => rfl
  | k :: gs, t, O, h => by
    obtain ⟨k0, k1⟩ := h k (List.mem_cons_self ..)
    obtain ⟨m, rfl⟩ := Int.eq_ofNat_of_zero_le k0
    have ih := cT_run h2 b gs (LW.callE t m) (O.callE h2 (by omega)) fun y hy => h y (List.mem_cons_of_mem _ hy)
    show cT n (runE gs (LW.callE t ((m : Nat) : Int).toNat)) b = ruH n gs (stH n m (cT n t b))
    rw [Int.toNat_natCast, ih, cT_call O h2 b (by omega)]
theorem cT_iota {n : Nat} (h0 : 0 < n) (b e : Int) : cT n (iota n) b e = max 0 (b - e) := by
  have zero : ∀ e : Int, b ≤ e → cT n (iota n) b e = 0 := fun e he => by
    unfold cT
    refine DL.sum_zero fun i hi => ?_
    rw [ig_iota hi]
    have : (b - (i : Int)) / (n : Int) ≤ (e - i) / n := Int.ediv_le_ediv (by omega) (by omega)
    omega
  have down : ∀ k : Nat, cT n (iota n) b (b - k) = k := fun k => by
    induction k with
    | zero => exact zero _ (by omega)
    | succ k ih =>
      have s := cT_step (out_iota n) h0 b (b - k)
      have e1 : endAt (iota n) (b - k) = b - k := by
        obtain ⟨i, hi, ei, ex⟩ := unroll n h0 (b - k)
        unfold endAt
        rw [iota_len, ei, ig_iota hi]; omega
      rw [e1, ih] at s
      rw [show b - ((k + 1 : Nat) : Int) = b - k - 1 by omega, s]
      unfold boI
      rw [if_pos (decide_eq_true (by omega))]; omega
  by_cases h : b ≤ e
  · rw [zero e h]; omega
  · have := down (b - e).toNat
    rw [show b - (((b - e).toNat : Nat) : Int) = e by omega] at this
    rw [this]; omega
/-- all levels come from the persons that the endless line carries -/
theorem StB.carr {n : Nat} {H : Int → Int} (S : StB H) (gs : List Int) : ∀ e, IsMn (fun x : Int => H x + ruH n gs (fun g => max 0 (x - g)) e) (ruH n gs H e) := by
  have up : ∀ (k : Nat) (g : Int), H (g + k) ≤ H g ∧ H g ≤ H (g + k) + k := fun k => by
    induction k with
    | zero => intro g; simp
    | succ k ih =>
      intro g
      have := ih g
      have s := S (g + ((k + 1 : Nat) : Int))
      rw [show g + ((k + 1 : Nat) : Int) - 1 = g + (k : Int) by omega] at s
      omega
  have h : ∀ g, IsMn (fun x : Int => H x + max 0 (x - g)) (H g) := fun g => by
    refine ⟨fun x => ?_, g, by dsimp only; omega⟩
    rcases Int.le_total x g with hx | hx
    · have := (up (g - x).toNat x).1
      rw [show x + (((g - x).toNat : Nat) : Int) = g by omega] at this
      dsimp only; omega
    · have := (up (x - g).toNat g).2
      rw [show g + (((x - g).toNat : Nat) : Int) = x by omega] at this
      dsimp only; omega
  intro e
  have := IsMn.ru n gs (F := fun (x : Int) g => H x + max 0 (x - g)) h e
  have e2 : (fun x : Int => H x + ruH n gs (fun g => max 0 (x - g)) e) = fun x : Int => ruH n gs (fun g => H x + max 0 (x - g)) e := by
    funext x
    rw [ruH_add]
  rw [e2]
  exact this
theorem ruH_sub {n : Nat} (h2 : 2 ≤ n) : ∀ {g1 g2 : List Int}, g1.Sublist g2 → ∀ {H J : Int → Int} {a : Int}, StB J → (∀ g, H g ≤ J g ∧ J g ≤ H g + a) → ∀ g, ruH n g1 H g ≤ ruH n g2 J g ∧ ruH n g2 J g ≤ ruH n g1 H g + (a + (g2.length - g1.length : Int))
  | _, _, .slnil, H, J, a, _, h, g => by
    have := h g
    simpa [ruH] using this
  | _, _, .cons k s, H, J, a, S, h, g => by
    have := ruH_sub h2 s (H := H) (J := stH n k J) (a := a + 1) (S.st h2 k) (fun g => by have := h g; have := S.up n k g; omega) g
    rw [List.length_cons]
    show _ ≤ ruH n _ (stH n k J) g ∧ ruH n _ (stH n k J) g ≤ _
    omega
  | _, _, .cons₂ k s, H, J, a, S, h, g => by
    have m1 := fun g => stH_mono (n := n) (k := k) (a := 0) (H := H) (J := J) (fun g => by have := (h g).1; omega) g
    have m2 := fun g => stH_mono (n := n) (k := k) (a := a) (H := J) (J := H) (fun g => (h g).2) g
    have := ruH_sub h2 s (H := stH n k H) (J := stH n k J) (a := a) (S.st h2 k) (fun g => ⟨by have := m1 g; omega, m2 g⟩) g
    rw [List.length_cons, List.length_cons]
    show ruH n _ (stH n k H) g ≤ ruH n _ (stH n k J) g ∧ ruH n _ (stH n k J) g ≤ ruH n _ (stH n k H) g + _
    omega
def slaw_carried : DSp := fun ds Q _ => ∃ (o : List Int) (b e : Int), ds = [.tup (o.map D.int), .int b, .int e] ∧ 0 < o.length ∧ o.length ≤ 1000 ∧ b.natAbs < 2 ^ 160 ∧ e.natAbs < 2 ^ 160 ∧ (∀ x ∈ o, x.natAbs < 2 ^ 160) ∧ Q false (.int (carrO o b e)) []
theorem i_lcarried {o : List Int} {b e : Int} {Q : Bool → D → List D → Prop} {E : EdT} (h1 : 0 < o.length) (h2 : o.length ≤ 1000) (hb : b.natAbs < 2 ^ 160) (he : e.natAbs < 2 ^ 160) (ho : ∀ x ∈ o, x.natAbs < 2 ^ 160) (h : Q false (.int (carrO o b e)) []) : slaw_carried [.tup (o.map D.int), .int b, .int e] Q E := ⟨o, b, e, rfl, h1, h2, hb, he, ho, h⟩
/-! the least prices of threads -/
def omin : Option Int → Option Int → Option Int
  | none, b => b
  | some a, none => some a
  | some a, some b => some (min a b)
def stP (n : Nat) (k : Int) (P : Int → Option Int) : Int → Option Int := fun g =>
  omin (if (g - k) % (n : Int) = 0 then none else P g) (omin (if (g + 1 - k) % (n : Int) = 0 then P (g + 1) else none) (if (g - 1 - k) % (n : Int) = 0 then (P (g - 1)).map (· + 1) else none))
/-- of the threads that end at e -/
def prP (n : Nat) (e : Int) : List Int → Int → Option Int
  | [] => fun g => if g = e then some 0 else none
  | k :: gs => stP n k (prP n e gs)
theorem omin_some {a b : Option Int} {p : Int} (h : omin a b = some p) : a = some p ∨ b = some p := by
  cases a with
  | none => exact .inr h
  | some x =>
    cases b with
    | none => exact .inl h
    | some y =>
      have h : min x y = p := Option.some.inj h
      by_cases z : x ≤ y
      · exact .inl (by rw [← h]; congr 1; omega)
      · exact .inr (by rw [← h]; congr 1; omega)
theorem omin_le {a b : Option Int} : (∀ p, a = some p → ∃ q, omin a b = some q ∧ q ≤ p) ∧ ∀ p, b = some p → ∃ q, omin a b = some q ∧ q ≤ p := by
  cases a with
  | none => exact ⟨fun p h => (nomatch h), fun p h => ⟨p, h, Int.le_refl _⟩⟩
  | some x =>
    cases b with
    | none => exact ⟨fun p h => ⟨p, h, Int.le_refl _⟩, fun p h => (nomatch h)⟩
    | some y => exact ⟨fun p h => ⟨min x y, rfl, by cases h; omega⟩, fun p h => ⟨min x y, rfl, by cases h; omega⟩⟩
/-- by which step -/
def StepP (n : Nat) (k : Int) (P : Int → Option Int) (g p h : Int) : Prop := (h = g ∧ ¬ (g - k) % (n : Int) = 0 ∧ P g = some p) ∨ (h = g + 1 ∧ (g + 1 - k) % (n : Int) = 0 ∧ P (g + 1) = some p) ∨ (h = g - 1 ∧ (g - 1 - k) % (n : Int) = 0 ∧ P (g - 1) = some (p - 1))
theorem stP_some {n : Nat} {k : Int} {P : Int → Option Int} {g p : Int} (h : stP n k P g = some p) : ∃ x, StepP n k P g p x := by
  unfold stP at h
  rcases omin_some h with h | h
  · split at h
    · cases h
    · rename_i hc; exact ⟨g, .inl ⟨rfl, hc, h⟩⟩
  · rcases omin_some h with h | h
    · split at h
      · rename_i hc; exact ⟨g + 1, .inr (.inl ⟨rfl, hc, h⟩)⟩
      · cases h
    · split at h
      · rename_i hc
        cases hp : P (g - 1) with
        | none => rw [hp] at h; cases h
        | some q =>
          rw [hp] at h
          have h : q + 1 = p := Option.some.inj h
          exact ⟨g - 1, .inr (.inr ⟨rfl, hc, by rw [hp]; congr 1; omega⟩)⟩
      · cases h
theorem stP_le {n : Nat} {k : Int} {P : Int → Option Int} {g p x : Int} (h : StepP n k P g p x) : ∃ q, stP n k P g = some q ∧ q ≤ p := by
  unfold stP
  rcases h with ⟨rfl, hc, h⟩ | ⟨rfl, hc, h⟩ | ⟨rfl, hc, h⟩
  · exact omin_le.1 p (by rw [if_neg hc]; exact h)
  · obtain ⟨q, h1, h2⟩ := (omin_le (a := if (g + 1 - k) % (n : Int) = 0 then P (g + 1) else none) (b := if (g - 1 - k) % (n : Int) = 0 then (P (g - 1)).map (· + 1) else none)).1 p (by rw [if_pos hc]; exact h)
    obtain ⟨q2, h3, h4⟩ := (omin_le (a := if (g - k) % (n : Int) = 0 then none else P g) (b := omin (if (g + 1 - k) % (n : Int) = 0 then P (g + 1) else none) (if (g - 1 - k) % (n : Int) = 0 then (P (g - 1)).map (· + 1) else none))).2 q h1
    exact ⟨q2, h3, by omega⟩
  · obtain ⟨q, h1, h2⟩ := (omin_le (a := if (g + 1 - k) % (n : Int) = 0 then P (g + 1) else none) (b := if (g - 1 - k) % (n : Int) = 0 then (P (g - 1)).map (· + 1) else none)).2 p (by rw [if_pos hc, h]; show some (p - 1 + 1) = some p; congr 1; omega)
    obtain ⟨q2, h3, h4⟩ := (omin_le (a := if (g - k) % (n : Int) = 0 then none else P g) (b := omin (if (g + 1 - k) % (n : Int) = 0 then P (g + 1) else none) (if (g - 1 - k) % (n : Int) = 0 then (P (g - 1)).map (· + 1) else none))).2 q h1
    exact ⟨q2, h3, by omega⟩
theorem stP_congr {n : Nat} {k : Int} {P R : Int → Option Int} (h : ∀ g, P g = R g) : ∀ g, stP n k P g = stP n k R g := fun g => by
  unfold stP
  rw [h, h, h]
/-- the levels after a schedule by the prices: point 5 -/
theorem ru_pr {n : Nat} (e : Int) : ∀ (gs : List Int) (H : Int → Int), (∀ g p, prP n e gs g = some p → ruH n gs H e ≤ H g + p) ∧ ∃ g p, prP n e gs g = some p ∧ ruH n gs H e = H g + p
  | [], H => by
    refine ⟨fun g p h => ?_, e, 0, if_pos rfl, by show H e = _; omega⟩
    have h : (if g = e then some 0 else none) = some p := h
    by_cases z : g = e
    · rw [if_pos z] at h
      have h := Option.some.inj h
      subst z
      show H g ≤ _; omega
    · rw [if_neg z] at h; exact nomatch h
  | k :: gs, H => by
    obtain ⟨h1, g, p, h2, h3⟩ := ru_pr e gs (stH n k H)
    have le : ∀ g p, prP n e (k :: gs) g = some p → ruH n (k :: gs) H e ≤ H g + p := fun g p h => by
      show ruH n gs (stH n k H) e ≤ _
      obtain ⟨x, hx⟩ := stP_some h
      rcases hx with ⟨_, hc, hp⟩ | ⟨_, hc, hp⟩ | ⟨_, hc, hp⟩
      · have a := h1 g p hp
        have b : stH n k H g = H g := if_neg hc
        omega
      · have a := h1 (g + 1) p hp
        have b : stH n k H (g + 1) = min (H (g + 1 - 1)) (H (g + 1 + 1) + 1) := if_pos hc
        rw [show g + 1 - 1 = g by omega] at b
        omega
      · have a := h1 (g - 1) (p - 1) hp
        have b : stH n k H (g - 1) = min (H (g - 1 - 1)) (H (g - 1 + 1) + 1) := if_pos hc
        rw [show g - 1 + 1 = g by omega] at b
        omega
    refine ⟨le, ?_⟩
    have fin : ∀ g p x, StepP n k (prP n e gs) g p x → ruH n gs (stH n k H) e = H g + p → ∃ g p, prP n e (k :: gs) g = some p ∧ ruH n (k :: gs) H e = H g + p := fun g p x hs hv => by
      obtain ⟨q, hq, hle⟩ := stP_le hs
      have a := le g q hq
      refine ⟨g, q, hq, ?_⟩
      have hv2 : ruH n (k :: gs) H e = H g + p := hv
      omega
    by_cases hc : (g - k) % (n : Int) = 0
    · have b : stH n k H g = min (H (g - 1)) (H (g + 1) + 1) := if_pos hc
      by_cases z : H (g - 1) ≤ H (g + 1) + 1
      · exact fin (g - 1) p g (.inr (.inl ⟨by omega, by rw [show g - 1 + 1 - k = g - k by omega]; exact hc, by rw [show g - 1 + 1 = g by omega]; exact h2⟩)) (by omega)
      · exact fin (g + 1) (p + 1) g (.inr (.inr ⟨by omega, by rw [show g + 1 - 1 - k = g - k by omega]; exact hc, by rw [show g + 1 - 1 = g by omega, h2]; congr 1; omega⟩)) (by omega)
    · have b : stH n k H g = H g := if_neg hc
      exact fin g p g (.inl ⟨rfl, hc, h2⟩) (by omega)
theorem prP_near {n : Nat} (e : Int) : ∀ (gs : List Int) (g p : Int), prP n e gs g = some p → (e - gs.length ≤ g ∧ g ≤ e + gs.length) ∧ 0 ≤ p ∧ p ≤ gs.length
  | [], g, p, h => by
    have h : (if g = e then some 0 else none) = some p := h
    by_cases z : g = e
    · rw [if_pos z] at h
      have h := Option.some.inj h
      simp only [List.length_nil]; omega
    · rw [if_neg z] at h; exact nomatch h
  | k :: gs, g, p, h => by
    obtain ⟨x, hx⟩ := stP_some h
    rw [List.length_cons]
    rcases hx with ⟨_, _, hp⟩ | ⟨_, _, hp⟩ | ⟨_, _, hp⟩
    · have := prP_near e gs _ _ hp; omega
    · have := prP_near e gs _ _ hp; omega
    · have := prP_near e gs _ _ hp; omega
/-- there is always a beginning -/
theorem prP_some {n : Nat} (e : Int) (gs : List Int) : ∃ g p, prP n e gs g = some p := by
  obtain ⟨_, g, p, h, _⟩ := ru_pr (n := n) e gs fun _ => 0
  exact ⟨g, p, h⟩
/-! ### as dicts -/
structure Dk (l : List (Int × Int)) (P : Int → Option Int) : Prop where
  nd : (l.map (·.1)).Nodup
  at_ : ∀ g, lookI l g = P g
theorem lookI_none {l : List (Int × Int)} {k : Int} : lookI l k = none ↔ ¬ k ∈ l.map (·.1) := by
  unfold lookI
  rw [Option.map_eq_none_iff, List.find?_eq_none]
  constructor
  · intro h hm
    obtain ⟨p, hp, e⟩ := List.mem_map.mp hm
    exact h p hp (decide_eq_true e)
  · intro h p hp z
    exact h (List.mem_map.mpr ⟨p, hp, of_decide_eq_true z⟩)
theorem putI_new {l : List (Int × Int)} {k v : Int} (h : ¬ k ∈ l.map (·.1)) : putI l k v = l ++ [(k, v)] := by
  unfold putI
  rw [if_neg]
  intro z
  obtain ⟨p, hp, e⟩ := List.any_eq_true.mp z
  exact h (List.mem_map.mpr ⟨p, hp, of_decide_eq_true e⟩)
theorem putI_keys {l : List (Int × Int)} {k v : Int} : (putI l k v).map (·.1) = if k ∈ l.map (·.1) then l.map (·.1) else l.map (·.1) ++ [k] := by
  split
  · rename_i h
    unfold putI
    rw [if_pos]
    · rw [List.map_map]
      refine List.map_congr_left fun p _ => ?_
      show (if p.1 = k then (p.1, v) else p).1 = p.1
      split <;> rfl
    · obtain ⟨p, hp, e⟩ := List.mem_map.mp h
      exact List.any_eq_true.mpr ⟨p, hp, decide_eq_true e⟩
  · rename_i h
    rw [putI_new h, List.map_append]; rfl
theorem putI_len {l : List (Int × Int)} {k v : Int} : (putI l k v).length ≤ l.length + 1 := by
  have h := congrArg List.length (putI_keys (l := l) (k := k) (v := v))
  rw [List.length_map] at h
  split at h
  · rw [List.length_map] at h; omega
  · rw [List.length_append, List.length_map, List.length_singleton] at h; omega
theorem Dk.put {l : List (Int × Int)} {P R : Int → Option Int} (D : Dk l P) {k v : Int} (h : ∀ g, R g = if g = k then some v else P g) : Dk (putI l k v) R := by
  refine ⟨?_, fun g => by rw [lookI_put, h, D.at_]⟩
  rw [putI_keys]
  split
  · exact D.nd
  · rename_i hn
    exact List.nodup_append.mpr ⟨D.nd, by simp, fun a ha b hb e => by
      rw [List.mem_singleton] at hb
      rw [hb] at e
      exact hn (e ▸ ha)⟩
theorem Dk.mem {l : List (Int × Int)} {P : Int → Option Int} (D : Dk l P) {g p : Int} : (g, p) ∈ l ↔ P g = some p := by
  rw [← D.at_]
  have nd := D.nd
  clear D
  induction l with
  | nil => simp [lookI]
  | cons q l ih =>
    rw [List.map_cons, List.nodup_cons] at nd
    have ih := ih nd.2
    unfold lookI at *
    rw [List.mem_cons, List.find?_cons]
    by_cases e : q.1 = g
    · rw [decide_eq_true e]
      have hn : (g, p) ∉ l := fun z => nd.1 (by rw [e]; exact List.mem_map.mpr ⟨_, z, rfl⟩)
      constructor
      · rintro (h | h)
        · rw [← h]; rfl
        · exact absurd h hn
      · intro h
        have h : q.2 = p := Option.some.inj h
        exact .inl (by rw [← e, ← h])
    · rw [decide_eq_false e]
      refine Iff.trans ?_ ih
      constructor
      · rintro (h | h)
        · exact absurd (by rw [← h]) e
        · exact h
      · exact .inr
theorem nodup_le : ∀ (m : Nat) (l : List Int) (a : Int), l.Nodup → (∀ x ∈ l, a ≤ x ∧ x < a + m) → l.length ≤ m
  | 0, l, a, _, h => by
    cases l with
    | nil => exact Nat.le_refl _
    | cons x l => have := h x (List.mem_cons_self ..); omega
  | m + 1, l, a, nd, h => by
    have ih := nodup_le m (l.erase (a + m)) a (nd.erase _) fun x hx => by
      obtain ⟨h1, h2⟩ := (List.Nodup.mem_erase_iff nd).mp hx
      have := h x h2
      omega
    have := List.length_erase (a := a + m) (l := l)
    split at this <;> omega
theorem Dk.len {l : List (Int × Int)} {P : Int → Option Int} (D : Dk l P) {a : Int} {m : Nat} (h : ∀ g p, P g = some p → a ≤ g ∧ g < a + m) : l.length ≤ m := by
  have := nodup_le m (l.map (·.1)) a D.nd fun x hx => by
    obtain ⟨p, hp, rfl⟩ := List.mem_map.mp hx
    exact h _ _ (D.mem.mp (show (p.1, p.2) ∈ l from hp))
  rwa [List.length_map] at this
theorem Dk.prLen {n : Nat} {gs : List Int} {e : Int} {m : List (Int × Int)} (D : Dk m (prP n e gs)) : m.length ≤ 2 * gs.length + 1 :=
  D.len (a := e - gs.length) fun g p h => by have := prP_near e gs g p h; omega
/-- one more pair is read -/
theorem stP_snoc {n : Nat} (h2 : 2 ≤ n) {k : Int} {P : Int → Option Int} {x c : Int} (hx : P x = none) (g : Int) : stP n k (fun g => if g = x then some c else P g) g =
    if (x - k) % (n : Int) = 0 then (if g = x - 1 then omin (some c) (stP n k P g) else if g = x + 1 then omin (some (c + 1)) (stP n k P g) else stP n k P g) else (if g = x then omin (some c) (stP n k P g) else stP n k P g) := by
  unfold stP
  have c1 : g + 1 = x ↔ g = x - 1 := by omega
  have c2 : g - 1 = x ↔ g = x + 1 := by omega
  simp only [c1, c2]
  by_cases hk : (x - k) % (n : Int) = 0
  · rw [if_pos hk]
    by_cases e1 : g = x - 1
    · subst e1
      have a1 : ¬ x - 1 = x := by omega
      have a2 : ¬ x - 1 = x + 1 := by omega
      have a3 : (x - 1 + 1 - k) % (n : Int) = 0 := by rw [show x - 1 + 1 - k = x - k by omega]; exact hk
      rw [if_pos rfl, if_pos rfl, if_neg a1, if_neg a2, if_pos a3, if_pos a3]
      have a4 : P (x - 1 + 1) = none := by rw [show x - 1 + 1 = x by omega]; exact hx
      rw [a4]
      generalize (if (x - 1 - k) % (n : Int) = 0 then none else P (x - 1)) = A
      generalize (if (x - 1 - 1 - k) % (n : Int) = 0 then (P (x - 1 - 1)).map (· + 1) else none) = B
      cases A <;> cases B <;> simp [omin] <;> omega
    · by_cases e2 : g = x + 1
      · subst e2
        have a1 : ¬ x + 1 = x := by omega
        have a2 : ¬ x + 1 = x - 1 := by omega
        have a3 : (x + 1 - 1 - k) % (n : Int) = 0 := by rw [show x + 1 - 1 - k = x - k by omega]; exact hk
        rw [if_neg a2, if_neg a2, if_pos rfl, if_pos rfl, if_neg a1, if_pos a3, if_pos a3]
        have a4 : P (x + 1 - 1) = none := by rw [show x + 1 - 1 = x by omega]; exact hx
        rw [a4]
        generalize (if (x + 1 - k) % (n : Int) = 0 then none else P (x + 1)) = A
        generalize (if (x + 1 + 1 - k) % (n : Int) = 0 then P (x + 1 + 1) else none) = B
        cases A <;> cases B <;> simp [omin] <;> omega
      · rw [if_neg e1, if_neg e2, if_neg e1, if_neg e2]
        by_cases e3 : g = x
        · subst e3
          rw [if_pos hk, if_pos hk]
        · rw [if_neg e3]
  · rw [if_neg hk]
    by_cases e3 : g = x
    · subst e3
      have a1 : ¬ g = g - 1 := by omega
      have a2 : ¬ g = g + 1 := by omega
      rw [if_pos rfl, if_pos rfl, if_neg a1, if_neg a2, if_neg hk, if_neg hk, hx]
      rfl
    · rw [if_neg e3, if_neg e3]
      by_cases e1 : g = x - 1
      · subst e1
        have a2 : ¬ x - 1 = x + 1 := by omega
        have a3 : ¬ (x - 1 + 1 - k) % (n : Int) = 0 := by rw [show x - 1 + 1 - k = x - k by omega]; exact hk
        rw [if_pos rfl, if_neg a2, if_neg a3, if_neg a3]
      · by_cases e2 : g = x + 1
        · subst e2
          have a3 : ¬ (x + 1 - 1 - k) % (n : Int) = 0 := by rw [show x + 1 - 1 - k = x - k by omega]; exact hk
          rw [if_neg e1, if_pos rfl, if_neg a3, if_neg a3]
        · rw [if_neg e1, if_neg e2]
def sstepped_back : DSp := fun ds Q _ => ∃ (n : Nat) (k : Int) (L : List (Int × Int)) (P : Int → Option Int), ds = [.int n, .dkl (prK L), .int k] ∧ 2 ≤ n ∧ Dk L P ∧ L.length ≤ 40000 ∧ ∀ m, Dk m (stP n k P) → Q true (.dic (prK m)) []
theorem i_stepped {n : Nat} {k : Int} {L : List (Int × Int)} {P : Int → Option Int} {Q : Bool → D → List D → Prop} {E : EdT} (h2 : 2 ≤ n) (D1 : Dk L P) (hl : L.length ≤ 40000) (h : ∀ m, Dk m (stP n k P) → Q true (.dic (prK m)) []) : sstepped_back [.int n, .dkl (prK L), .int k] Q E := ⟨n, k, L, P, rfl, h2, D1, hl, h⟩
theorem items_prK (L : List (Int × Int)) : (prK L).map itemD = L.map fun p => D.tup [.int p.1, .int p.2] := by
  unfold prK
  rw [List.map_map]; rfl
theorem omin_getD (o : Option Int) (c : Int) : omin (some c) o = some (min c (o.getD c)) := by
  cases o with
  | none => simp [omin]
  | some x => rfl
theorem getD_int (o : Option Int) (c : Int) : (o.map D.int).getD (.int c) = .int (o.getD c) := by cases o <;> rfl
/-- the prices at each moment -/
def layD (n : Nat) (e : Int) (gs : List Int) : List (List (Int × Int)) → Prop := fun Ls => Ls.length = gs.length + 1 ∧ ∀ i : Nat, i ≤ gs.length → Dk (Ls.getD i []) (prP n e (gs.drop i))
abbrev dkI (l : List (Int × Int)) : D := .dkl (prK l)
def slayers : DSp := fun ds Q _ => ∃ (n : Nat) (gs : List Int) (e : Int), ds = [.int n, iL gs, .int e] ∧ 2 ≤ n ∧ gs.length ≤ 5000 ∧ ∀ Ls, layD n e gs Ls → Q true (.lst (Ls.map dkI)) []
theorem i_layers {n : Nat} {gs : List Int} {e : Int} {Q : Bool → D → List D → Prop} {E : EdT} (h2 : 2 ≤ n) (hl : gs.length ≤ 5000) (h : ∀ Ls, layD n e gs Ls → Q true (.lst (Ls.map dkI)) []) : slayers [.int n, iL gs, .int e] Q E := ⟨n, gs, e, rfl, h2, hl, h⟩
theorem at_getD {α : Type} [Inhabited α] (f : α → D) (l : List α) {k : Nat} (x : α) (h : k < l.length) : atI (l.map f) (k : Int) = some (f (l.getD k x)) := by
  rw [at_map f l h, List.getD_eq_getElem?_getD, List.getElem?_eq_getElem h]; rfl
theorem at_lastD {α : Type} [Inhabited α] (f : α → D) (l : List α) {k : Nat} (x : α) (h : l.length = k + 1) : atI (l.map f) (-1) = some (f (l.getD k x)) := by
  have e : ixN (l.map f).length (-1) = some k := by
    unfold ixN
    rw [List.length_map, h, if_neg (by omega)]
    simp
    omega
  unfold atI
  rw [e, Option.bind_some, List.getElem?_map, List.getElem?_eq_getElem (by omega), List.getD_eq_getElem?_getD, List.getElem?_eq_getElem (by omega)]; rfl
/-- the list of the least prices, by the gaps where they begin -/
structure CoL (n : Nat) (e : Int) (gs : List Int) (L : List (Int × Int)) : Prop where
  asc : L.Pairwise fun x y => x.1 < y.1
  mem : ∀ g p, (g, p) ∈ L ↔ prP n e gs g = some p
def prL (L : List (Int × Int)) : D := .lst (L.map fun p => .tup [.int p.1, .int p.2])
def scosts : DSp := fun ds Q _ => ∃ (n : Nat) (gs : List Int) (e : Int), ds = [.int n, iL gs, .int e] ∧ 2 ≤ n ∧ gs.length ≤ 5000 ∧ ∀ L, CoL n e gs L → Q true (prL L) []
theorem i_costs {n : Nat} {gs : List Int} {e : Int} {Q : Bool → D → List D → Prop} {E : EdT} (h2 : 2 ≤ n) (hl : gs.length ≤ 5000) (h : ∀ L, CoL n e gs L → Q true (prL L) []) : scosts [.int n, iL gs, .int e] Q E := ⟨n, gs, e, rfl, h2, hl, h⟩
def scarried : DSp := fun ds Q _ => ∃ (o : List Int) (b e : Int), ds = [.tup (o.map D.int), .int b, .int e] ∧ 0 < o.length ∧ o.length ≤ 1000 ∧ b.natAbs < 2 ^ 160 ∧ e.natAbs < 2 ^ 160 ∧ (∀ x ∈ o, x.natAbs < 2 ^ 160) ∧ Q false (.int (carrO o b e)) []
theorem i_carried {o : List Int} {b e : Int} {Q : Bool → D → List D → Prop} {E : EdT} (h1 : 0 < o.length) (h2 : o.length ≤ 1000) (hb : b.natAbs < 2 ^ 160) (he : e.natAbs < 2 ^ 160) (ho : ∀ x ∈ o, x.natAbs < 2 ^ 160) (h : Q false (.int (carrO o b e)) []) : scarried [.tup (o.map D.int), .int b, .int e] Q E := ⟨o, b, e, rfl, h1, h2, hb, he, ho, h⟩
def rowsF (n : Nat) (k : Int) (P : Int → Option Int) (g : Int) : List (List Int) :=
  (if (g - k) % (n : Int) = 0 then [] else (P g).toList.map fun p => [p, 0, g]) ++ ((if (g + 1 - k) % (n : Int) = 0 then (P (g + 1)).toList.map fun p => [p, 1, g + 1] else []) ++ (if (g - 1 - k) % (n : Int) = 0 then (P (g - 1)).toList.map fun p => [p + 1, 2, g - 1] else []))
theorem rowsF_mem {n : Nat} {k : Int} {P : Int → Option Int} {g : Int} {r : List Int} (h : r ∈ rowsF n k P g) : ∃ p t x, r = [p, t, x] ∧ StepP n k P g p x := by
  unfold rowsF at h
  rw [List.mem_append, List.mem_append] at h
  rcases h with h | h | h
  · split at h
    · cases h
    · rename_i hc
      obtain ⟨p, hp, rfl⟩ := List.mem_map.mp h
      exact ⟨p, 0, g, rfl, .inl ⟨rfl, hc, Option.mem_toList.mp hp⟩⟩
  · split at h
    · rename_i hc
      obtain ⟨p, hp, rfl⟩ := List.mem_map.mp h
      exact ⟨p, 1, g + 1, rfl, .inr (.inl ⟨rfl, hc, Option.mem_toList.mp hp⟩)⟩
    · cases h
  · split at h
    · rename_i hc
      obtain ⟨p, hp, rfl⟩ := List.mem_map.mp h
      exact ⟨p + 1, 2, g - 1, rfl, .inr (.inr ⟨rfl, hc, by rw [Option.mem_toList.mp hp]; congr 1; omega⟩)⟩
    · cases h
theorem rowsF_has {n : Nat} {k : Int} {P : Int → Option Int} {g p x : Int} (h : StepP n k P g p x) : ∃ t, [p, t, x] ∈ rowsF n k P g := by
  unfold rowsF
  rcases h with ⟨rfl, hc, h⟩ | ⟨rfl, hc, h⟩ | ⟨rfl, hc, h⟩
  · exact ⟨0, List.mem_append_left _ (by rw [if_neg hc, h]; exact List.mem_cons_self ..)⟩
  · exact ⟨1, List.mem_append_right _ (List.mem_append_left _ (by rw [if_pos hc, h]; exact List.mem_cons_self ..))⟩
  · exact ⟨2, List.mem_append_right _ (List.mem_append_right _ (by rw [if_pos hc, h]; exact List.mem_singleton.mpr (by congr 1; omega)))⟩
theorem rowsF_min {n : Nat} {k : Int} {P : Int → Option Int} {g p : Int} (h : stP n k P g = some p) {r : List Int} (hr : r ∈ rowsF n k P g) (hm : ∀ r' ∈ rowsF n k P g, hd0 r ≤ hd0 r') : ∃ t x, r = [p, t, x] ∧ StepP n k P g p x := by
  obtain ⟨q, t, x, rfl, hs⟩ := rowsF_mem hr
  obtain ⟨y, hy⟩ := stP_some h
  obtain ⟨t2, h2⟩ := rowsF_has hy
  have a : q ≤ p := hm _ h2
  obtain ⟨p2, e, le⟩ := stP_le hs
  rw [h] at e
  cases e
  obtain rfl : q = p := by omega
  exact ⟨t, x, rfl, hs⟩
def sfollowed : DSp := fun ds Q _ => ∃ (n : Nat) (k here : Int) (L : List (Int × Int)) (P : Int → Option Int) (p : Int), ds = [.int n, .int k, .int here, .dkl (prK L)] ∧ 2 ≤ n ∧ (∀ g, lookI L g = P g) ∧ stP n k P here = some p ∧ ∀ x, StepP n k P here p x → Q false (.int x) []
theorem i_followed {n : Nat} {k here : Int} {L : List (Int × Int)} {P : Int → Option Int} {p : Int} {Q : Bool → D → List D → Prop} {E : EdT} (h2 : 2 ≤ n) (hL : ∀ g, lookI L g = P g) (hp : stP n k P here = some p) (h : ∀ x, StepP n k P here p x → Q false (.int x) []) : sfollowed [.int n, .int k, .int here, .dkl (prK L)] Q E := ⟨n, k, here, L, P, p, rfl, h2, hL, hp, h⟩
/-- steps down among the first k -/
def cntN (t : List Int) : Nat → Int
  | 0 => 0
  | k + 1 => cntN t k + (if ig t (k : Int) = ig t ((k : Int) + 1) + 1 then 1 else 0)
theorem cntN_app {t m : List Int} : ∀ {k : Nat}, k < t.length → cntN (t ++ m) k = cntN t k
  | 0, _ => rfl
  | k + 1, h => by
    rw [cntN, cntN, cntN_app (by omega), ig_app (by omega), show (k : Int) + 1 = ((k + 1 : Nat) : Int) by omega, ig_app h]
def isIT : D → Bool
  | .int _ => true
  | _ => false
/-- one step of a thread -/
def stB (n : Nat) (a b g : Int) : Bool := decide (((a - b).natAbs : Int) = if (b - g) % (n : Int) = 0 then 1 else 0)
def thN (n : Nat) (gs l : List Int) : Bool := (List.range gs.length).all fun i => stB n (ig l (i : Int)) (ig l ((i : Int) + 1)) (ig gs (i : Int))
/-- is this a thread -/
def thrB (n : Nat) (gs : List Int) : D → Bool
  | .lst ds => match ints? ds with
    | some l => decide (l.length = gs.length + 1) && thN n gs l
    | none => false
  | _ => false
structure ThOk (d : D) : Prop where
  ty : (tyN d).isSome = true
  noscr : ∀ ds, d ≠ .scr ds
  its : ∀ ds, d = .lst ds → (∀ x ∈ ds, (tyN x).isSome = true ∧ niceD 256 x = true ∧ (toPy x).depth ≤ 15) ∧ ds.length ≤ 20000
theorem all_ints : ∀ {ds : List D}, (ds.map isIT).all id = true → ∃ l : List Int, ds = l.map D.int
  | [], _ => ⟨[], rfl⟩
  | d :: ds, h => by
    rw [List.map_cons, List.all_cons, Bool.and_eq_true] at h
    obtain ⟨l, hl⟩ := all_ints h.2
    cases d with
    | int i => exact ⟨i :: l, by rw [hl]; rfl⟩
    | _ => exact absurd h.1 Bool.false_ne_true
theorem ints_all : ∀ {l : List Int}, ((l.map D.int).map isIT).all id = true
  | [] => rfl
  | x :: l => by rw [List.map_cons, List.map_cons, List.all_cons, ints_all]; rfl
theorem noint {n : Nat} {gs : List Int} {ds : List D} (h : (ds.map isIT).all id = false) : thrB n gs (.lst ds) = false := by
  have : ints? ds = none := by
    cases e : ints? ds with
    | none => rfl
    | some l =>
      exfalso
      have : ds = l.map D.int := ints?_eq e
      rw [this, ints_all] at h
      cases h
  rw [thrB, this]
theorem nolen {n : Nat} {gs : List Int} {ds : List D} (h : ds.length ≠ gs.length + 1) : thrB n gs (.lst ds) = false := by
  rw [thrB]
  cases e : ints? ds with
  | none => rfl
  | some l =>
    have e2 : ds = l.map D.int := ints?_eq e
    rw [e2, List.length_map] at h
    show (decide (l.length = gs.length + 1) && _) = false
    rw [decide_eq_false h]; rfl
theorem thr_ints {n : Nat} {gs l : List Int} (h : l.length = gs.length + 1) : thrB n gs (.lst (l.map D.int)) = thN n gs l := by
  rw [thrB, ints?_map]
  show (decide (l.length = gs.length + 1) && _) = _
  rw [decide_eq_true h, Bool.true_and]
theorem thN_true {n : Nat} {gs l : List Int} (h : ∀ i : Nat, i < gs.length → stB n (ig l (i : Int)) (ig l ((i : Int) + 1)) (ig gs (i : Int)) = true) : thN n gs l = true := by
  unfold thN
  exact List.all_eq_true.mpr fun i hi => h i (List.mem_range.mp hi)
theorem thN_false {n : Nat} {gs l : List Int} {i : Nat} (hi : i < gs.length) (h : stB n (ig l (i : Int)) (ig l ((i : Int) + 1)) (ig gs (i : Int)) = false) : thN n gs l = false := by
  unfold thN
  rw [List.all_eq_false]
  exact ⟨i, List.mem_range.mpr hi, by rw [h]; exact Bool.false_ne_true⟩
theorem i_ninP {i : Int} {l : List Int} {Q : Res → Prop} (h : Q (.val (.bl (!decide (i ∈ l))))) : ninD (.int i) (.tup (l.map D.int)) Q := ⟨i, l, rfl, ints?_map l, _, rfl, h⟩
structure ChT (n : Nat) (gs : List Int) (b e p : Int) (t : List Int) : Prop where
  len : t.length = gs.length + 1
  beg : ig t 0 = b
  fin : ig t (gs.length : Int) = e
  cnt : cntN t gs.length = p
  thr : thN n gs t = true
def scheapest : DSp := fun ds Q _ => ∃ (n : Nat) (gs : List Int) (b e : Int), ds = [.int n, iL gs, .int b, .int e] ∧ 2 ≤ n ∧ gs.length ≤ 5000 ∧ (prP n e gs b = none → Q false .non []) ∧ ∀ p t, prP n e gs b = some p → ChT n gs b e p t → Q true (iL t) []
theorem i_cheapest {n : Nat} {gs : List Int} {b e : Int} {Q : Bool → D → List D → Prop} {E : EdT} (h2 : 2 ≤ n) (hl : gs.length ≤ 5000) (h0 : prP n e gs b = none → Q false .non []) (h : ∀ p t, prP n e gs b = some p → ChT n gs b e p t → Q true (iL t) []) : scheapest [.int n, iL gs, .int b, .int e] Q E := ⟨n, gs, b, e, rfl, h2, hl, h0, h⟩
theorem StepP.st {n : Nat} {k : Int} {P : Int → Option Int} {g p x : Int} (h : StepP n k P g p x) : stB n g x k = true ∧ P x = some (p - if g = x + 1 then 1 else 0) := by
  unfold stB
  rcases h with ⟨rfl, hc, h⟩ | ⟨rfl, hc, h⟩ | ⟨rfl, hc, h⟩
  · have a : ¬ x = x + 1 := by omega
    rw [if_neg hc, if_neg a]
    exact ⟨decide_eq_true (by omega), by rw [h]; congr 1; omega⟩
  · have a : ¬ g = g + 1 + 1 := by omega
    rw [if_pos hc, if_neg a]
    exact ⟨decide_eq_true (by omega), by rw [h]; congr 1; omega⟩
  · have a : g = g - 1 + 1 := by omega
    rw [if_pos hc, if_pos a]
    exact ⟨decide_eq_true (by omega), h⟩
/-- two neighbours exchanged, on the unrolled places -/
def sig (n g : Nat) (p : Int) : Int := if p % (n : Int) = g then p + 1 else if p % (n : Int) = (nxP n g : Nat) then p - 1 else p
theorem nx_iff {n g : Nat} (h2 : 2 ≤ n) (hg : g < n) (p : Int) : (p + 1) % (n : Int) = (nxP n g : Nat) ↔ p % (n : Int) = g := by
  obtain ⟨i, hi, ei, exx⟩ := unroll n (by omega) p
  have e : (p + 1) % (n : Int) = (nxP n i : Nat) := by
    rw [exx, show (i : Int) + p / n * n + 1 = (i + 1) + p / n * n by omega, Int.add_mul_emod_self_right, nxP_mod hi]
  rw [e, ei]
  constructor
  · intro h
    have h : nxP n i = nxP n g := by omega
    unfold nxP at h
    split at h <;> split at h <;> omega
  · intro h
    have h : i = g := by omega
    rw [h]
theorem sig_lt {n g : Nat} (h2 : 2 ≤ n) (hg : g < n) {p q : Int} (h : p < q) (hn : ¬ (p % (n : Int) = g ∧ q = p + 1)) : sig n g p < sig n g q := by
  have a := nx_iff h2 hg p
  have b := nx_iff h2 hg (q - 1)
  rw [show q - 1 + 1 = q by omega] at b
  have hne := nxP_ne h2 hg
  unfold sig
  by_cases c1 : p % (n : Int) = g
  · rw [if_pos c1]
    by_cases c2 : q % (n : Int) = g
    · rw [if_pos c2]; omega
    · rw [if_neg c2]
      by_cases c3 : q % (n : Int) = (nxP n g : Nat)
      · rw [if_pos c3]
        have : q ≠ p + 2 := fun z => by
          have h1 := a.mpr c1
          have h2' := b.mp c3
          rw [z, show p + 2 - 1 = p + 1 by omega, h1] at h2'
          omega
        omega
      · rw [if_neg c3]; omega
  · rw [if_neg c1]
    have e1 : (if p % (n : Int) = (nxP n g : Nat) then p - 1 else p) ≤ p := by split <;> omega
    by_cases c2 : q % (n : Int) = g
    · rw [if_pos c2]; omega
    · rw [if_neg c2]
      by_cases c3 : q % (n : Int) = (nxP n g : Nat)
      · rw [if_pos c3]
        have : q ≠ p + 1 := fun z => c1 (by have := b.mp c3; rw [z, show p + 1 - 1 = p by omega] at this; exact this)
        omega
      · rw [if_neg c3]; omega
theorem endAt_swap {n : Nat} {t : List Int} (hl : t.length = n) (h2 : 2 ≤ n) {g : Nat} (hg : g < n) (p : Int) : endAt (swapT t g) p = endAt t (sig n g p) := by
  obtain ⟨i, hi, ei, exx⟩ := unroll n (by omega) p
  have hne := nxP_ne h2 hg
  have e0 : endAt (swapT t g) p = ig (swapT t g) (i : Int) + p / n * n := by unfold endAt; rw [swapT_len, hl, ei]
  rw [e0, swapT_at hl hg]
  have at_ : ∀ (j : Nat) (k : Int), j < n → endAt t ((j : Int) + k * n) = ig t (j : Int) + k * n := fun j k hj => by
    have := endAt_lap t (j : Int) k (by omega)
    rw [hl] at this
    rw [this, endAt_nat (by omega)]
  unfold sig
  rw [ei]
  by_cases c1 : nxP n g = i
  · rw [if_pos c1, if_neg (by omega), if_pos (by omega)]
    by_cases c : g + 1 < n
    · have en : nxP n g = g + 1 := by unfold nxP; rw [if_pos c]
      have es : shP n g = 0 := by unfold shP; rw [if_pos c]
      rw [es, show p - 1 = (g : Int) + p / n * n by omega, at_ g _ hg]; omega
    · have en : nxP n g = 0 := by unfold nxP; rw [if_neg c]
      have es : shP n g = n := by unfold shP; rw [if_neg c]
      rw [es, show p - 1 = (g : Int) + (p / n - 1) * n by rw [Int.sub_mul]; omega, at_ g _ hg, Int.sub_mul]; omega
  · rw [if_neg c1]
    by_cases c2 : g = i
    · rw [if_pos c2, if_pos (by omega)]
      by_cases c : g + 1 < n
      · have en : nxP n g = g + 1 := by unfold nxP; rw [if_pos c]
        have es : shP n g = 0 := by unfold shP; rw [if_pos c]
        rw [es, en, show p + 1 = ((g + 1 : Nat) : Int) + p / n * n by omega, at_ (g + 1) _ c]; omega
      · have en : nxP n g = 0 := by unfold nxP; rw [if_neg c]
        have es : shP n g = n := by unfold shP; rw [if_neg c]
        rw [es, en, show p + 1 = ((0 : Nat) : Int) + (p / n + 1) * n by rw [Int.add_mul]; omega, at_ 0 _ (by omega), Int.add_mul]; omega
    · rw [if_neg c2, if_neg (by omega), if_neg (by omega)]
      have := at_ i (p / n) hi
      rw [← exx] at this
      exact this.symm
/-- the persons at the places, and what remains of the outcome -/
structure PlanAt (n : Nat) (o ok t : List Int) : Prop where
  outK : Out n ok
  outT : Out n t
  rel : ∀ p : Int, endAt ok p = endAt o (endAt t p)
  pas : ∀ p q : Int, p < q → endAt t q < endAt t p → endAt ok p < endAt ok q
theorem endAt_iota {n : Nat} (h : 0 < n) (p : Int) : endAt (iota n) p = p := by
  obtain ⟨i, hi, ei, exx⟩ := unroll n h p
  unfold endAt
  rw [iota_len, ei, ig_iota hi]
  exact exx.symm
theorem PlanAt.start {n : Nat} {o : List Int} (O : Out n o) (h : 0 < n) : PlanAt n o o (iota n) := ⟨O, out_iota n, fun p => by rw [endAt_iota h], fun p q hpq hlt => by rw [endAt_iota h, endAt_iota h] at hlt; omega⟩
def firstG (n : Nat) (o : List Int) (g : Nat) : Prop := ig o (nxP n g : Nat) + shP n g < ig o (g : Int)
theorem PlanAt.step {n : Nat} {o ok t : List Int} (W : PlanAt n o ok t) (h2 : 2 ≤ n) {g : Nat} (hg : g < n) (hf : firstG n ok g) : PlanAt n o (swapT ok g) (swapT t g) ∧ passE t g = true := by
  have lk := W.outK.len
  have lt := W.outT.len
  have fg : endAt ok ((g : Int) + 1) < endAt ok (g : Int) := by rw [endAt_nat (by omega), endAt_next (by omega) (by omega), lk]; exact hf
  have pg : endAt t (g : Int) ≤ endAt t ((g : Int) + 1) := by
    rcases Int.lt_or_le (endAt t ((g : Int) + 1)) (endAt t (g : Int)) with h | h
    · have := W.pas g (g + 1) (by omega) h; omega
    · exact h
  refine ⟨⟨W.outK.swap h2 hg, W.outT.swap h2 hg, fun p => ?_, fun p q hpq hlt => ?_⟩, ?_⟩
  · rw [endAt_swap lk h2 hg, endAt_swap lt h2 hg]; exact W.rel _
  · rw [endAt_swap lt h2 hg, endAt_swap lt h2 hg] at hlt
    rw [endAt_swap lk h2 hg, endAt_swap lk h2 hg]
    by_cases hc : p % (n : Int) = g ∧ q = p + 1
    · obtain ⟨h1, rfl⟩ := hc
      obtain ⟨i, hi, ei, exx⟩ := unroll n (by omega) p
      have hig : i = g := by omega
      subst hig
      have hne := nxP_ne h2 hg
      have hx := (nx_iff h2 hg p).mpr h1
      have s1 : sig n i p = p + 1 := by unfold sig; rw [if_pos h1]
      have s2 : sig n i (p + 1) = p := by unfold sig; rw [if_neg (by omega), if_pos hx]; omega
      rw [s1, s2]
      have e1 := endAt_lap ok (i : Int) (p / n) (by omega)
      have e2 := endAt_lap ok ((i : Int) + 1) (p / n) (by omega)
      rw [lk, ← exx] at e1
      rw [lk, show (i : Int) + 1 + p / n * n = p + 1 by omega] at e2
      omega
    · exact W.pas _ _ (sig_lt h2 hg hpq hc) hlt
  · unfold passE
    rw [endAt_nat (by omega), endAt_next (by omega) (by omega)] at pg
    exact decide_eq_true pg
theorem PlanAt.done {n : Nat} {o t : List Int} (O : Out n o) (h : 0 < n) (W : PlanAt n o (iota n) t) : t = invO o := by
  have lt := W.outT.len
  refine ig_ext (by rw [lt, invO_len, O.len]) fun i hi => ?_
  have e := W.rel i
  rw [endAt_iota h] at e
  have := O.end_inv h (endAt t (i : Int))
  rw [← e, endAt_nat hi] at this
  rw [← this, endAt_nat (by rw [invO_len, O.len]; omega)]
theorem runE_app : ∀ (gs hs t : List Int), runE (gs ++ hs) t = runE hs (runE gs t)
  | [], _, _ => rfl
  | g :: gs, hs, t => runE_app gs hs _
/-- who is passed has a lower rank -/
def Pos (r o : List Int) : Prop := ∀ p q : Int, p < q → endAt o q < endAt o p → rkP r q < rkP r p
def PosT (r t : List Int) : Prop := ∀ p q : Int, p < q → endAt t q < endAt t p → rkP r (endAt t p) < rkP r (endAt t q)
theorem rkP_lap (r : List Int) (x k : Int) : rkP r (x + k * r.length) = rkP r x := by
  unfold rkP; rw [Int.add_mul_emod_self_right]
theorem passT_end {n : Nat} {r t : List Int} (hl : t.length = n) (h2 : 2 ≤ n) {g : Nat} (hg : g < n) : passT r t g = decide (rkP r (endAt t ((g : Int) + 1)) < rkP r (endAt t (g : Int))) := by
  unfold passT
  rw [endAt_nat (by omega), endAt_next (by omega) (by omega)]
theorem PosT.call {n : Nat} {r t : List Int} (hr : r.length = n) (hl : t.length = n) (h2 : 2 ≤ n) {g : Nat} (hg : g < n) (P : PosT r t) : PosT r (callT r t g) := by
  unfold callT
  by_cases hp : passT r t g = true
  · rw [if_pos hp]
    rw [passT_end hl h2 hg] at hp
    have hp := of_decide_eq_true hp
    intro p q hpq hlt
    rw [endAt_swap hl h2 hg, endAt_swap hl h2 hg] at hlt ⊢
    by_cases hc : p % (n : Int) = g ∧ q = p + 1
    · obtain ⟨h1, rfl⟩ := hc
      obtain ⟨i, hi, ei, exx⟩ := unroll n (by omega) p
      have hig : i = g := by omega
      subst hig
      have hx := (nx_iff h2 hg p).mpr h1
      have hne := nxP_ne h2 hg
      have s1 : sig n i p = p + 1 := by unfold sig; rw [if_pos h1]
      have s2 : sig n i (p + 1) = p := by unfold sig; rw [if_neg (by omega), if_pos hx]; omega
      rw [s1, s2]
      have e1 := endAt_lap t (i : Int) (p / n) (by omega)
      have e2 := endAt_lap t ((i : Int) + 1) (p / n) (by omega)
      rw [hl, ← exx] at e1
      rw [hl, show (i : Int) + 1 + p / n * n = p + 1 by omega] at e2
      rw [e1, e2, ← hr, rkP_lap, rkP_lap]
      exact hp
    · exact P _ _ (sig_lt h2 hg hpq hc) hlt
  · rw [if_neg hp]; exact P
theorem swapT_swapT {n : Nat} {t : List Int} (hl : t.length = n) (h2 : 2 ≤ n) {g : Nat} (hg : g < n) : swapT (swapT t g) g = t := by
  have hl2 : (swapT t g).length = n := by rw [swapT_len, hl]
  have hne := nxP_ne h2 hg
  have hx := nxP_lt (n := n) (g := g) (by omega)
  refine ig_ext (by rw [swapT_len, swapT_len]) fun i hi => ?_
  rw [swapT_len, swapT_len] at hi
  rw [swapT_at hl2 hg, swapT_at hl hg, swapT_at hl hg, swapT_at hl hg]
  by_cases c1 : nxP n g = i
  · rw [if_pos c1, if_neg hne, if_pos rfl, c1]; omega
  · rw [if_neg c1]
    by_cases c2 : g = i
    · rw [if_pos c2, if_pos rfl, c2]; omega
    · rw [if_neg c2, if_neg c1, if_neg c2]
theorem S2_up {n : Nat} {t : List Int} (O : Out n t) (h2 : 2 ≤ n) {g : Nat} (hg : g < n) (h : ig t (g : Int) < ig t (nxP n g : Nat) + shP n g) : S2 n (swapT t g) = S2 n t + 2 := by
  have hl := O.len
  have hne := nxP_ne h2 hg
  have e := S2_swap (O.swap h2 hg) h2 hg (by
    rw [swapT_at hl hg, swapT_at hl hg, if_pos rfl, if_neg hne, if_pos rfl]; omega)
  rw [swapT_swapT hl h2 hg] at e
  exact e.symm
theorem lt_of_pass {n : Nat} {t : List Int} (O : Out n t) (h2 : 2 ≤ n) {g : Nat} (h : ¬ endAt t ((g : Int) + 1) < endAt t (g : Int)) : endAt t (g : Int) < endAt t ((g : Int) + 1) := by
  have : endAt t (g : Int) ≠ endAt t ((g : Int) + 1) := fun e => by have := O.endAt_inj (by omega) e; omega
  omega
theorem passE_lt' {n : Nat} {t : List Int} (O : Out n t) (h2 : 2 ≤ n) {g : Nat} (hg : g < n) (h : passE t g = true) : endAt t (g : Int) < endAt t ((g : Int) + 1) := by
  refine lt_of_pass O h2 ?_
  unfold passE at h
  have h := of_decide_eq_true h
  rw [endAt_nat (by rw [O.len]; omega), endAt_next (by rw [O.len]; omega) (by rw [O.len]; omega)]
  omega
def bad (r o : List Int) (a b : Int) : Prop := endAt o b < endAt o a ∧ rkP r a ≤ rkP r b
/-- the first pass that is barred -/
def barR (n : Nat) (r o : List Int) : Option (Int × Int) → Prop
  | none => ∀ a b : Int, 0 ≤ a → a < n → a < b → b < a + n → ¬ bad r o a b
  | some (a, b) => 0 ≤ a ∧ a < n ∧ a < b ∧ b < a + n ∧ bad r o a b ∧ (∀ a' b' : Int, 0 ≤ a' → a' < a → a' < b' → b' < a' + n → ¬ bad r o a' b') ∧ ∀ b' : Int, a < b' → b' < b → ¬ bad r o a b'
theorem barR.uniq {n : Nat} {r o : List Int} : ∀ {x y : Option (Int × Int)}, barR n r o x → barR n r o y → x = y
  | none, none, _, _ => rfl
  | none, some (a, b), h, g => absurd g.2.2.2.2.1 (h a b g.1 g.2.1 g.2.2.1 g.2.2.2.1)
  | some (a, b), none, g, h => absurd g.2.2.2.2.1 (h a b g.1 g.2.1 g.2.2.1 g.2.2.2.1)
  | some (a, b), some (c, d), g, h => by
    obtain ⟨g1, g2, g3, g4, g5, g6, g7⟩ := g
    obtain ⟨h1, h2, h3, h4, h5, h6, h7⟩ := h
    have e1 : ¬ a < c := fun z => h6 a b g1 z g3 g4 g5
    have e2 : ¬ c < a := fun z => g6 c d h1 z h3 h4 h5
    have e : a = c := by omega
    subst e
    have e3 : ¬ b < d := fun z => h7 b g3 z g5
    have e4 : ¬ d < b := fun z => g7 d h3 z h5
    have e : b = d := by omega
    rw [e]
def opD : Option (Int × Int) → D
  | none => .non
  | some (a, b) => .tup [.int a, .int b]
/-! calls taken back, from the last one on -/
def upT (T : List Int) (g : Nat) : Bool := decide (ig T (nxP T.length g : Nat) + shP T.length g < ig T (g : Int))
def sbT (T : List Int) (g : Nat) : List Int := if upT T g = true then swapT T g else T
def tbT : List Int → List Int → List Int
  | [], T => T
  | g :: gs, T => sbT (tbT gs T) g.toNat
def tbK : List Int → List Int → List Int
  | [], _ => []
  | g :: gs, T => if upT (tbT gs T) g.toNat = true then g :: tbK gs T else tbK gs T
/-- the indexes of the calls that were taken back -/
def tbI : List Int → List Int → Int → List Int
  | [], _, _ => []
  | g :: gs, T, k => if upT (tbT gs T) g.toNat = true then k :: tbI gs T (k + 1) else tbI gs T (k + 1)
theorem sbT_len (T : List Int) (g : Nat) : (sbT T g).length = T.length := by
  unfold sbT; split
  · exact swapT_len T g
  · rfl
theorem tbT_len : ∀ gs T : List Int, (tbT gs T).length = T.length
  | [], _ => rfl
  | g :: gs, T => by rw [tbT, sbT_len, tbT_len gs]
theorem _root_.DL.Out.sb {n : Nat} {T : List Int} (O : Out n T) (h2 : 2 ≤ n) {g : Nat} (hg : g < n) : Out n (sbT T g) := by
  unfold sbT; split
  · exact O.swap h2 hg
  · exact O
theorem out_tb {n : Nat} (h2 : 2 ≤ n) : ∀ (gs T : List Int), (∀ x ∈ gs, 0 ≤ x ∧ x < n) → Out n T → Out n (tbT gs T)
  | [], _, _, O => O
  | g :: gs, T, h, O => by
    have := h g (List.mem_cons_self ..)
    exact (out_tb h2 gs T (fun x hx => h x (List.mem_cons_of_mem _ hx)) O).sb h2 (by omega)
theorem tbK_sub : ∀ gs T : List Int, (tbK gs T).Sublist gs
  | [], _ => List.Sublist.slnil
  | g :: gs, T => by
    rw [tbK]
    split
    · exact (tbK_sub gs T).cons₂ g
    · exact (tbK_sub gs T).cons g
theorem tbI_len : ∀ (gs T : List Int) (k : Int), (tbI gs T k).length ≤ gs.length
  | [], _, _ => Nat.le_refl _
  | g :: gs, T, k => by
    have := tbI_len gs T (k + 1)
    rw [tbI, List.length_cons]
    split
    · rw [List.length_cons]; omega
    · omega
theorem upT_end {n : Nat} {T : List Int} (hl : T.length = n) (h2 : 2 ≤ n) {g : Nat} (hg : g < n) : upT T g = decide (endAt T ((g : Int) + 1) < endAt T (g : Int)) := by
  subst hl
  unfold upT
  rw [endAt_next h2 hg, endAt_nat hg]
theorem up_pass {n : Nat} {T : List Int} (hl : T.length = n) (h2 : 2 ≤ n) {g : Nat} (hg : g < n) (h : upT T g = true) : passE (swapT T g) g = true := by
  subst hl
  unfold upT at h
  have h := of_decide_eq_true h
  unfold passE
  rw [swapT_len]
  refine decide_eq_true ?_
  rw [swapT_at rfl hg, swapT_at rfl hg, if_neg (nxP_ne h2 hg), if_pos rfl, if_pos rfl]
  omega
theorem tbK_run {n : Nat} (h2 : 2 ≤ n) : ∀ (gs T : List Int), T.length = n → (∀ x ∈ gs, 0 ≤ x ∧ x < n) → runE (tbK gs T) (tbT gs T) = T
  | [], _, _, _ => rfl
  | g :: gs, T, hl, h => by
    have hg := h g (List.mem_cons_self ..)
    have ih := tbK_run h2 gs T hl fun x hx => h x (List.mem_cons_of_mem _ hx)
    have hU : (tbT gs T).length = n := by rw [tbT_len, hl]
    have hgn : g.toNat < n := by omega
    rw [tbK, tbT]
    unfold sbT
    by_cases hc : upT (tbT gs T) g.toNat = true
    · rw [if_pos hc, if_pos hc, runE]
      unfold callE
      rw [if_pos (up_pass hU h2 hgn hc), swapT_swapT hU h2 hgn, ih]
    · rw [if_neg hc, if_neg hc, ih]
theorem _root_.LW.PosT.sb {n : Nat} {r T : List Int} (hl : T.length = n) (h2 : 2 ≤ n) {g : Nat} (hg : g < n) (P : PosT r T) : PosT r (sbT T g) := by
  unfold sbT
  by_cases hp : upT T g = true
  · rw [if_pos hp]
    rw [upT_end hl h2 hg] at hp
    have hp := of_decide_eq_true hp
    intro p q hpq hlt
    rw [endAt_swap hl h2 hg, endAt_swap hl h2 hg] at hlt ⊢
    by_cases hc : p % (n : Int) = g ∧ q = p + 1
    · obtain ⟨h1, rfl⟩ := hc
      obtain ⟨i, hi, ei, exx⟩ := unroll n (by omega) p
      have hig : i = g := by omega
      subst hig
      have hx := (nx_iff h2 hg p).mpr h1
      have hne := nxP_ne h2 hg
      have s1 : sig n i p = p + 1 := by unfold sig; rw [if_pos h1]
      have s2 : sig n i (p + 1) = p := by unfold sig; rw [if_neg (by omega), if_pos hx]; omega
      rw [s1, s2] at hlt
      have e1 := endAt_lap T (i : Int) (p / n) (by omega)
      have e2 := endAt_lap T ((i : Int) + 1) (p / n) (by omega)
      rw [hl, ← exx] at e1
      rw [hl, show (i : Int) + 1 + p / n * n = p + 1 by omega] at e2
      omega
    · exact P _ _ (sig_lt h2 hg hpq hc) hlt
  · rw [if_neg hp]; exact P
theorem cT_nn (n : Nat) (t : List Int) (b e : Int) : 0 ≤ cT n t b e := sum_nonneg fun _ _ => by omega
theorem ascend {n : Nat} {T : List Int} (O : Out n T) (h2 : 2 ≤ n) {g : Nat} (hg : g < n) : endAt (sbT T g) (g : Int) < endAt (sbT T g) ((g : Int) + 1) := by
  unfold sbT
  by_cases hp : upT T g = true
  · rw [if_pos hp]
    rw [upT_end O.len h2 hg] at hp
    have hp := of_decide_eq_true hp
    have h1 : (g : Int) % (n : Int) = g := Int.emod_eq_of_lt (by omega) (by omega)
    have hx := (nx_iff h2 hg (g : Int)).mpr h1
    have hne := nxP_ne h2 hg
    have s1 : sig n g (g : Int) = g + 1 := by unfold sig; rw [if_pos h1]
    have s2 : sig n g ((g : Int) + 1) = g := by unfold sig; rw [if_neg (by omega), if_pos hx]; omega
    rw [endAt_swap O.len h2 hg, endAt_swap O.len h2 hg, s1, s2]
    exact hp
  · rw [if_neg hp]
    rw [upT_end O.len h2 hg] at hp
    exact lt_of_pass O h2 (fun h => hp (decide_eq_true h))
theorem cT_sb_ne {n : Nat} {T : List Int} (hl : T.length = n) (h2 : 2 ≤ n) {g : Nat} (hg : g < n) (b e : Int) (h : ¬ (e - g) % (n : Int) = 0) : cT n (sbT T g) b e = cT n T b e := by
  unfold sbT
  split
  · rw [cT_swap hl h2 b e hg, if_neg h, Int.add_zero]
  · rfl
theorem tb_below {n : Nat} (h2 : 2 ≤ n) : ∀ (gs T : List Int), Out n T → (∀ x ∈ gs, 0 ≤ x ∧ x < n) → ∀ (H : Int → Int → Int), (∀ b, StB (H b)) → (∀ b e, cT n T b e ≤ ruH n gs (H b) e) → ∀ b e, cT n (tbT gs T) b e ≤ H b e
  | [], _, _, _, _, _, h => h
  | g :: gs, T, O, hs, H, hH, h => by
    have hg := hs g (List.mem_cons_self ..)
    have hgn : g.toNat < n := by omega
    have hs' : ∀ x ∈ gs, 0 ≤ x ∧ x < n := fun x hx => hs x (List.mem_cons_of_mem _ hx)
    have ih := tb_below h2 gs T O hs' (fun b => stH n g (H b)) (fun b => (hH b).st h2 g) h
    have OU := out_tb h2 gs T hs' O
    intro b e
    rw [tbT]
    generalize tbT gs T = U at ih OU ⊢
    have S := hH b
    have ig0 : ((g.toNat : Nat) : Int) = g := by omega
    have hne : ∀ x : Int, ¬ (x - g) % (n : Int) = 0 → cT n (sbT U g.toNat) b x ≤ H b x := fun x hx => by
      rw [cT_sb_ne OU.len h2 hgn b x (by rw [ig0]; exact hx)]
      have := ih b x
      unfold stH at this
      rwa [if_neg hx] at this
    by_cases he : (e - g) % (n : Int) = 0
    · have n1 : ¬ (e - 1 - g) % (n : Int) = 0 := by
        rw [show e - 1 - g = e - g - 1 by omega]; exact sub1_mod h2 he
      have n2 : ¬ (e + 1 - g) % (n : Int) = 0 := fun z => by
        have := sub1_mod h2 z
        rw [show e + 1 - g - 1 = e - g by omega] at this
        exact this he
      have a1 := hne (e - 1) n1
      have a2 := hne (e + 1) n2
      have OV : Out n (sbT U g.toNat) := OU.sb h2 hgn
      have c1 := cT_step OV (by omega) b e
      have c2 := cT_step OV (by omega) b (e + 1)
      rw [show e + 1 - 1 = e by omega] at c2
      have asc : endAt (sbT U g.toNat) e < endAt (sbT U g.toNat) (e + 1) := by
        have a := ascend OU h2 hgn
        obtain ⟨k, hk⟩ : ∃ k : Int, e = g + k * n := ⟨(e - g) / n, by
          have := Int.mul_ediv_add_emod (e - g) n
          rw [he, Int.mul_comm] at this
          omega⟩
        have e1 := endAt_lap (sbT U g.toNat) (g.toNat : Int) k (by rw [OV.len]; omega)
        have e2 := endAt_lap (sbT U g.toNat) ((g.toNat : Int) + 1) k (by rw [OV.len]; omega)
        rw [OV.len, ig0, ← hk] at e1
        rw [OV.len, ig0, show g + 1 + k * n = e + 1 by omega] at e2
        rw [ig0] at a
        omega
      have s1 := S e
      have s2 := S (e + 1)
      rw [show e + 1 - 1 = e by omega] at s2
      generalize endAt (sbT U g.toNat) e = x at *
      generalize endAt (sbT U g.toNat) (e + 1) = y at *
      by_cases hx : x ≤ b
      · rw [show boI (decide (x ≤ b)) = 1 from by rw [decide_eq_true hx]; rfl] at c1
        omega
      · rw [show boI (decide (y ≤ b)) = 0 from by rw [decide_eq_false (by omega)]; rfl] at c2
        omega
    · exact hne e he
theorem all_home {n : Nat} (h2 : 2 ≤ n) {V : List Int} (O : Out n V) (h : ∀ b e, cT n V b e ≤ max 0 (b - e)) : V = iota n := by
  have ge : ∀ p : Nat, p < n → (p : Int) ≤ ig V (p : Int) := fun p hp => by
    rcases Int.lt_or_le (ig V (p : Int)) p with hlt | hle
    · have c := cT_step O (by omega) (ig V (p : Int)) p
      rw [endAt_nat (by rw [O.len]; omega), show boI (decide (ig V (p : Int) ≤ ig V (p : Int))) = 1 from by rw [decide_eq_true (Int.le_refl _)]; rfl] at c
      have := cT_nn n V (ig V (p : Int)) p
      have := h (ig V (p : Int)) ((p : Int) - 1)
      omega
    · exact hle
  refine ig_ext (by rw [O.len, iota_len]) fun i hi => ?_
  rw [O.len] at hi
  rw [ig_iota hi]
  rcases Int.lt_or_le (i : Int) (ig V (i : Int)) with hlt | hle
  · exfalso
    have s := O.sum
    have e1 : V = (List.range n).map fun (j : Nat) => ig V (j : Int) := ig_ext (by rw [O.len, List.length_map, List.length_range]) fun j hj => by rw [ig_range _ (by rw [O.len] at hj; exact hj)]
    rw [e1] at s
    have s0 : ((List.range n).map fun (j : Nat) => ig V (j : Int) - j).sum = 0 := by
      have s' : ((List.range n).map fun (j : Nat) => ig V (j : Int)).sum = ((List.range n).map fun (j : Nat) => (j : Int)).sum := s
      rw [sum_map_sub (List.range n) (fun (j : Nat) => ig V (j : Int)) (fun (j : Nat) => (j : Int)), s']; omega
    have s1 : ((List.range n).map fun (j : Nat) => ig V (j : Int) - j).sum = ((List.range n).map fun (j : Nat) => if j = i then 0 else ig V (j : Int) - j).sum + (ig V (i : Int) - i) := DL.sum_one (j := i) hi (fun j _ hji => by rw [if_neg hji]) (by rw [if_pos rfl]; omega)
    have s2 : 0 ≤ ((List.range n).map fun (j : Nat) => if j = i then 0 else ig V (j : Int) - j).sum := sum_nonneg fun j hj => by
      have := ge j hj
      split <;> omega
    omega
  · have := ge i hi; omega
theorem tb_home {n : Nat} (h2 : 2 ≤ n) {gs T : List Int} (O : Out n T) (hs : Sch n gs) (h : ∀ b e, cT n T b e ≤ ruH n gs (fun g => max 0 (b - g)) e) : tbT gs T = iota n :=
  all_home h2 (out_tb h2 gs T hs.mem O) (tb_below h2 gs T O hs.mem (fun b g => max 0 (b - g)) (fun b g => by dsimp only; omega) h)
theorem tb_above {n : Nat} (h2 : 2 ≤ n) {gs T : List Int} (O : Out n T) (hs : Sch n gs) (h : tbT gs T = iota n) (b e : Int) : cT n T b e ≤ ruH n gs (fun g => max 0 (b - g)) e := by
  have r := tbK_run h2 gs T O.len hs.mem
  rw [h] at r
  have sub := tbK_sub gs T
  have c := cT_run h2 b (tbK gs T) (iota n) (out_iota n) fun x hx => hs.mem x (sub.subset hx)
  have f : cT n (iota n) b = fun g => max 0 (b - g) := funext fun g => cT_iota (by omega) b g
  rw [r, f] at c
  rw [c]
  exact (ruH_sub h2 sub (H := fun g => max 0 (b - g)) (J := fun g => max 0 (b - g)) (a := 0) (fun g => by dsimp only; omega) (fun g => by omega) e).1
theorem prP_lap {n : Nat} (h0 : 0 < n) (e k : Int) : ∀ (gs : List Int) (g : Int), prP n (e + n * k) gs (g + n * k) = prP n e gs g
  | [], g => by
    show (if g + n * k = e + n * k then some (0 : Int) else none) = if g = e then some 0 else none
    have : (g + n * k = e + n * k) = (g = e) := propext (by omega)
    simp only [this]
  | c :: gs, g => by
    show stP n c (prP n (e + n * k) gs) (g + n * k) = stP n c (prP n e gs) g
    have m : ∀ x : Int, (x + n * k) % (n : Int) = x % n := fun x => Int.add_mul_emod_self_left x n k
    unfold stP
    rw [show g + n * k + 1 = g + 1 + n * k by omega, show g + n * k - 1 = g - 1 + n * k by omega, prP_lap h0, prP_lap h0, prP_lap h0, show g + n * k - c = g - c + n * k by omega, show g + 1 + n * k - c = g + 1 - c + n * k by omega, show g - 1 + n * k - c = g - 1 - c + n * k by omega, m, m, m]
/-- a thread that costs less than the outcome carries -/
def Cheap (n : Nat) (gs o : List Int) (e b p : Int) : Prop := prP n e gs b = some p ∧ p < carrO o b e
theorem no_cheap {n : Nat} (h2 : 2 ≤ n) {gs o : List Int} (O : Out n o) (hs : Sch n gs) (h : ∀ e b p : Int, 0 ≤ e → e < n → ¬ Cheap n gs o e b p) : tbT gs (invO o) = iota n := by
  refine tb_home h2 O.inv hs fun b e => ?_
  obtain ⟨-, g, p, hp, hr⟩ := ru_pr (n := n) e gs fun g => max 0 (b - g)
  rw [hr]
  have e1 : cT n (invO o) b e = carrO o b e := by rw [← carrO_cT O.inv (by omega), O.inv_inv]
  rw [e1]
  have key : carrO o g e ≤ p := by
    have hm := Int.emod_nonneg e (show (n : Int) ≠ 0 by omega)
    have hm2 := Int.emod_lt_of_pos e (show 0 < (n : Int) by omega)
    have hd := Int.mul_ediv_add_emod e n
    have hnot := h (e % n) (g - n * (e / n)) p hm hm2
    have l1 := prP_lap (n := n) (by omega) (e % n) (e / n) gs (g - n * (e / n))
    rw [show e % n + n * (e / n) = e by omega, show g - n * (e / n) + n * (e / n) = g by omega, hp] at l1
    have l2 := carrO_laps o (by rw [O.len]; omega) (g - n * (e / n)) (e % n) (e / n)
    rw [O.len, Int.mul_comm (e / n) n, show e % n + n * (e / n) = e by omega, show g - n * (e / n) + n * (e / n) = g by omega] at l2
    rcases Int.lt_or_le p (carrO o g e) with hlt | hle
    · exact absurd ⟨l1.symm, by omega⟩ hnot
    · exact hle
  have up : ∀ (k : Nat) (x : Int), carrO o (x + k) e ≤ carrO o x e + k ∧ carrO o x e ≤ carrO o (x + k) e := by
    intro k
    induction k with
    | zero => intro x; rw [show x + ((0 : Nat) : Int) = x by omega]; omega
    | succ k ih =>
      intro x
      have := ih x
      have s := carrO_begin (o := o) (by rw [O.len]; omega) (x + ((k + 1 : Nat) : Int)) e
      rw [show x + ((k + 1 : Nat) : Int) - 1 = x + k by omega] at s
      have hb : ∀ c : Bool, 0 ≤ boI c ∧ boI c ≤ 1 := fun c => by cases c <;> decide
      have := hb (decide (e < endAt o (x + ((k + 1 : Nat) : Int))))
      omega
  rcases Int.le_total g b with hgb | hgb
  · have u := (up (b - g).toNat g).1
    rw [show g + ((b - g).toNat : Int) = b by omega] at u
    omega
  · have u := (up (g - b).toNat b).2
    rw [show b + ((g - b).toNat : Int) = g by omega] at u
    omega
theorem no_loss {n : Nat} (h2 : 2 ≤ n) {gs o : List Int} (O : Out n o) (hs : Sch n gs) (h : tbT gs (invO o) = iota n) {e b p : Int} (hp : prP n e gs b = some p) : carrO o b e ≤ p := by
  have a := tb_above h2 O.inv hs h b e
  have c := (ru_pr (n := n) e gs fun g => max 0 (b - g)).1 b p hp
  rw [← carrO_cT O.inv (by omega), O.inv_inv] at a
  omega
theorem _root_.LW.Pos.of_bar {n : Nat} {r o : List Int} (hr : r.length = n) (hl : o.length = n) (h0 : 0 < n) (h : barR n r o none) : Pos r o := fun p q hpq hlt => by
  have d1 := Int.emod_add_mul_ediv p n
  have d2 := Int.emod_add_mul_ediv (q - p) n
  have m1 := Int.emod_nonneg p (show (n : Int) ≠ 0 by omega)
  have m2 := Int.emod_lt_of_pos p (show 0 < (n : Int) by omega)
  have m3 := Int.emod_nonneg (q - p) (show (n : Int) ≠ 0 by omega)
  have m4 := Int.emod_lt_of_pos (q - p) (show 0 < (n : Int) by omega)
  have m5 : 0 ≤ (q - p) / (n : Int) := Int.ediv_nonneg (by omega) (by omega)
  rw [Int.mul_comm] at d1 d2
  generalize p % (n : Int) = a at d1 m1 m2
  generalize p / (n : Int) = k at d1
  generalize (q - p) % (n : Int) = c at d2 m3 m4
  generalize (q - p) / (n : Int) = m at d2 m5
  have ep := endAt_lap o a k (by omega)
  have eq' := endAt_lap o (a + c) (k + m) (by omega)
  have rp := rkP_lap r a k
  have rq := rkP_lap r (a + c) (k + m)
  rw [hl] at ep eq'
  rw [hr] at rp rq
  have am := Int.add_mul k m n
  have mn : 0 ≤ m * n := Int.mul_nonneg m5 (by omega)
  rw [show a + k * n = p by omega] at ep rp
  rw [show a + c + (k + m) * n = q by omega] at eq' rq
  rcases Int.lt_or_le (rkP r q) (rkP r p) with hlt2 | hle
  · exact hlt2
  · exfalso
    by_cases c0 : c = 0
    · subst c0
      rw [Int.add_zero] at eq'
      omega
    · exact h a (a + c) m1 m2 (by omega) (by omega) ⟨by omega, by rw [← rp, ← rq]; exact hle⟩
def scheap_thread : DSp := fun ds Q _ => ∃ (n : Nat) (gs o : List Int), ds = [.int n, iL gs, .tup (o.map D.int)] ∧ 2 ≤ n ∧ n ≤ 100 ∧ gs.length ≤ 1000 ∧ o.length = n ∧ (∀ x ∈ o, x.natAbs < 2 ^ 160) ∧ (∀ e b p t, Cheap n gs o e b p → ChT n gs b e p t → Q true (iL t) []) ∧ ((∀ e b p : Int, 0 ≤ e → e < n → ¬ Cheap n gs o e b p) → Q false .non [])
theorem i_cheap {n : Nat} {gs o : List Int} {Q : Bool → D → List D → Prop} {E : EdT} (h2 : 2 ≤ n) (h3 : n ≤ 100) (hl : gs.length ≤ 1000) (hol : o.length = n) (ho : ∀ x ∈ o, x.natAbs < 2 ^ 160) (h : ∀ e b p t, Cheap n gs o e b p → ChT n gs b e p t → Q true (iL t) []) (h' : (∀ e b p : Int, 0 ≤ e → e < n → ¬ Cheap n gs o e b p) → Q false .non []) : scheap_thread [.int n, iL gs, .tup (o.map D.int)] Q E := ⟨n, gs, o, rfl, h2, h3, hl, hol, ho, h, h'⟩
def sRing_size (C : Addr) : DSp := fun ds Q _ => ∃ l : List Int, ds = [ringD C l] ∧ Q false (.int l.length) []
theorem i_Rsize {C : Addr} {l : List Int} {Q : Bool → D → List D → Prop} {E : EdT} (h : Q false (.int l.length) []) : sRing_size C [ringD C l] Q E := ⟨l, rfl, h⟩
def sback : DSp := fun ds Q _ => ∃ (n : Nat) (t : List Int), ds = [.tup (t.map D.int)] ∧ Out n t ∧ n ≤ 1000 ∧ Q false (.tup ((invO t).map D.int)) []
theorem i_back {n : Nat} {t : List Int} {Q : Bool → D → List D → Prop} {E : EdT} (h1 : Out n t) (h2 : n ≤ 1000) (h : Q false (.tup ((invO t).map D.int)) []) : sback [.tup (t.map D.int)] Q E := ⟨n, t, rfl, h1, h2, h⟩
theorem drop_get {t : List Int} {i : Nat} {x : D} {xs : List D} (h : x :: xs = (t.drop i).map D.int) : i < t.length ∧ x = .int (ig t (i : Int)) ∧ xs = (t.drop (i + 1)).map D.int := by
  by_cases hi : i < t.length
  · rw [List.drop_eq_getElem_cons hi, List.map_cons] at h
    injection h with h1 h2
    exact ⟨hi, by rw [h1, ig_get hi], h2⟩
  · rw [List.drop_of_length_le (by omega)] at h; cases h
def scalls_taken_back : DSp := fun ds Q _ => ∃ (n : Nat) (gs o : List Int), ds = [.int n, iL gs, .tup (o.map D.int)] ∧ 2 ≤ n ∧ n ≤ 100 ∧ gs.length ≤ 1000 ∧ Out n o ∧ Sch n gs ∧ (tbT gs (invO o) = iota n → Q true (iL (tbI gs (invO o) 0)) []) ∧ (tbT gs (invO o) ≠ iota n → Q false .non [])
theorem i_taken {n : Nat} {gs o : List Int} {Q : Bool → D → List D → Prop} {E : EdT} (h2 : 2 ≤ n) (h3 : n ≤ 100) (hl : gs.length ≤ 1000) (O : Out n o) (hs : Sch n gs) (h : tbT gs (invO o) = iota n → Q true (iL (tbI gs (invO o) 0)) []) (h' : tbT gs (invO o) ≠ iota n → Q false .non []) : scalls_taken_back [.int n, iL gs, .tup (o.map D.int)] Q E := ⟨n, gs, o, rfl, h2, h3, hl, O, hs, h, h'⟩
theorem tbk_at (gs T : List Int) {r : Nat} (h : r < gs.length) : tbT (gs.drop r) T = sbT (tbT (gs.drop (r + 1)) T) (ig gs (r : Int)).toNat ∧ tbI (gs.drop r) T r = if upT (tbT (gs.drop (r + 1)) T) (ig gs (r : Int)).toNat = true then (r : Int) :: tbI (gs.drop (r + 1)) T ((r + 1 : Nat) : Int) else tbI (gs.drop (r + 1)) T ((r + 1 : Nat) : Int) := by
  rw [List.drop_eq_getElem_cons h, ← ig_get h]
  exact ⟨rfl, rfl⟩
def sRing_rank (C : Addr) : DSp := fun ds Q _ => ∃ (l : List Int) (p : Int), ds = [ringD C l, .int p] ∧ 0 < l.length ∧ Q false (.int (ig l (p % l.length))) []
theorem i_Rrank {C : Addr} {l : List Int} {p : Int} {Q : Bool → D → List D → Prop} {E : EdT} (h1 : 0 < l.length) (h : Q false (.int (ig l (p % l.length))) []) : sRing_rank C [ringD C l, .int p] Q E := ⟨l, p, rfl, h1, h⟩
def send_of : DSp := fun ds Q _ => ∃ (o : List Int) (x : Int), ds = [.tup (o.map D.int), .int x] ∧ 0 < o.length ∧ o.length ≤ 1000 ∧ Q false (.int (endAt o x)) []
theorem i_endof {o : List Int} {x : Int} {Q : Bool → D → List D → Prop} {E : EdT} (h1 : 0 < o.length) (h2 : o.length ≤ 1000) (h : Q false (.int (endAt o x)) []) : send_of [.tup (o.map D.int), .int x] Q E := ⟨o, x, rfl, h1, h2, h⟩
def sbarred_pass (C : Addr) : DSp := fun ds Q _ => ∃ (n : Nat) (r o : List Int), ds = [ringD C r, .tup (o.map D.int)] ∧ r.length = n ∧ o.length = n ∧ 2 ≤ n ∧ n ≤ 100 ∧ ∀ x, barR n r o x → Q false (opD x) []
theorem i_barredX {C : Addr} {n : Nat} {r o : List Int} {Q : Bool → D → List D → Prop} {E : EdT} (h0 : r.length = n) (h00 : o.length = n) (h1 : 2 ≤ n) (h2 : n ≤ 100) (h : ∀ x, barR n r o x → Q false (opD x) []) : sbarred_pass C [ringD C r, .tup (o.map D.int)] Q E := ⟨n, r, o, rfl, h0, h00, h1, h2, h⟩
/-- what decide may answer -/
inductive DecR (n : Nat) (r gs o : List Int) : D → Prop
  | pass (a b : Int) (h : barR n r o (some (a, b))) : DecR n r gs o (.tup [.str "pass", .int a, .int b])
  | kept (P : Pos r o) (h : tbT gs (invO o) = iota n) : DecR n r gs o (.tup [.str "kept", iL (tbI gs (invO o) 0)])
  | thread (e b p : Int) (t : List Int) (P : Pos r o) (h : tbT gs (invO o) ≠ iota n) (hc : Cheap n gs o e b p) (ht : ChT n gs b e p t) : DecR n r gs o (.tup [.str "thread", iL t])
def sdecide (C : Addr) : DSp := fun ds Q _ => ∃ (n : Nat) (r gs o : List Int), ds = [ringD C r, iL gs, .tup (o.map D.int)] ∧ r.length = n ∧ 2 ≤ n ∧ n ≤ 100 ∧ gs.length ≤ 1000 ∧ Out n o ∧ Sch n gs ∧ (∀ x ∈ o, x.natAbs < 2 ^ 160) ∧ ∀ d, DecR n r gs o d → Q false d []
theorem i_decide {C : Addr} {n : Nat} {r gs o : List Int} {Q : Bool → D → List D → Prop} {E : EdT} (hr : r.length = n) (h2 : 2 ≤ n) (h3 : n ≤ 100) (hl : gs.length ≤ 1000) (O : Out n o) (hs : Sch n gs) (ho : ∀ x ∈ o, x.natAbs < 2 ^ 160) (h : ∀ d, DecR n r gs o d → Q false d []) : sdecide C [ringD C r, iL gs, .tup (o.map D.int)] Q E := ⟨n, r, gs, o, rfl, hr, h2, h3, hl, O, hs, ho, h⟩
/-- an int that is no truth value -/
def isIntD : D → Bool
  | .int _ => true
  | _ => false
def sis_integer : DSp := fun ds Q _ => ∃ d, ds = [d] ∧ (tyN d).isSome = true ∧ Q false (.bl (isIntD d)) []
theorem i_isint {d : D} {Q : Bool → D → List D → Prop} {E : EdT} (h1 : (tyN d).isSome = true) (h : Q false (.bl (isIntD d)) []) : sis_integer [d] Q E := ⟨d, rfl, h1, h⟩
theorem i_isint1 {i : Int} {Q : Bool → D → List D → Prop} {E : EdT} (h : Q false (.bl true) []) : sis_integer [.int i] Q E := ⟨_, rfl, rfl, h⟩
def btwD (lo hi : Int) : D → Bool
  | .int i => decide (lo ≤ i) && decide (i ≤ hi)
  | _ => false
def sis_between : DSp := fun ds Q _ => ∃ d lo hi, ds = [d, .int lo, .int hi] ∧ (tyN d).isSome = true ∧ Q false (.bl (btwD lo hi d)) []
theorem i_btw {d : D} {lo hi : Int} {Q : Bool → D → List D → Prop} {E : EdT} (h1 : (tyN d).isSome = true) (h : Q false (.bl (btwD lo hi d)) []) : sis_between [d, .int lo, .int hi] Q E := ⟨d, lo, hi, rfl, h1, h⟩
def sis_size : DSp := fun ds Q _ => ∃ d, ds = [d] ∧ (tyN d).isSome = true ∧ Q false (.bl (btwD 2 12 d)) []
theorem i_sizeT {i : Int} {Q : Bool → D → List D → Prop} {E : EdT} (h1 : 2 ≤ i) (h2 : i ≤ 12) (h : Q false (.bl true) []) : sis_size [.int i] Q E := ⟨_, rfl, rfl, by rw [btwD, decide_eq_true h1, decide_eq_true h2]; exact h⟩
def sRing___init__ (C : Addr) : DSp := fun ds Q _ => ∃ l : List Int, ds = [.obj C [] [], .lst (l.map D.int)] ∧ 2 ≤ l.length ∧ l.length ≤ 12 ∧ Q false .non [ringD C l]
theorem i_Rinit {C : Addr} {l : List Int} {Q : Bool → D → List D → Prop} {E : EdT} (h1 : 2 ≤ l.length) (h2 : l.length ≤ 12) (h : Q false .non [ringD C l]) : sRing___init__ C [.obj C [] [], .lst (l.map D.int)] Q E := ⟨l, rfl, h1, h2, h⟩
theorem all_true (ns : List Int) : List.filterMap (fun _ : D => some (D.bl true)) (ns.map D.int) = (List.replicate ns.length true).map D.bl := by
  induction ns with
  | nil => rfl
  | cons x t ih => simp [ih, List.replicate]
theorem rep_true (n : Nat) : (List.replicate n true).all id = true := by simp
def NearT (t : List Int) : Prop := ∀ k : Nat, k + 1 < t.length → ig t (k : Int) ≤ ig t ((k : Int) + 1) + 1
def scost : DSp := fun ds Q _ => ∃ (t : List Int), ds = [iL t] ∧ 0 < t.length ∧ t.length < 20000 ∧ NearT t ∧ Q false (.int (cntN t (t.length - 1))) []
theorem i_cost {t : List Int} {Q : Bool → D → List D → Prop} {E : EdT} (h0 : 0 < t.length) (hl : t.length < 20000) (hn : NearT t) (h : Q false (.int (cntN t (t.length - 1))) []) : scost [iL t] Q E := ⟨t, rfl, h0, hl, hn, h⟩
theorem cnt_filter {t : List Int} (hn : NearT t) : ∀ k : Nat, k < t.length → ((((iota k).filter fun x => decide (ig t (x + 1) < ig t x)).length : Nat) : Int) = cntN t k
  | 0, _ => rfl
  | k + 1, h => by
    have ih := cnt_filter hn k (by omega)
    have := hn k (by omega)
    rw [iota_succ, List.filter_append, List.length_append, Int.natCast_add, ih, cntN, List.filter_cons, List.filter_nil]
    by_cases hc : ig t ((k : Int) + 1) < ig t (k : Int)
    · rw [decide_eq_true hc, if_pos rfl, if_pos (by omega)]; rfl
    · rw [decide_eq_false hc, if_neg Bool.false_ne_true, if_neg (by omega)]; rfl
theorem thN_near {n : Nat} {gs t : List Int} (hl : t.length = gs.length + 1) (h : thN n gs t = true) : NearT t := fun k hk => by
  unfold thN at h
  have := List.all_eq_true.mp h k (List.mem_range.mpr (by omega))
  unfold stB at this
  have := of_decide_eq_true this
  split at this <;> omega
theorem rngD_iota (n : Nat) : rngD 0 n = (iota n).map D.int := by
  rw [rngD_ints]; unfold iota; simp
def sis_thread : DSp := fun ds Q _ => ∃ (n : Nat) (gs : List Int) (d : D), ds = [.int n, iL gs, d] ∧ 2 ≤ n ∧ n ≤ 100 ∧ gs.length ≤ 1000 ∧ ThOk d ∧ Q false (.bl (thrB n gs d)) []
theorem i_isthr {n : Nat} {gs : List Int} {d : D} {Q : Bool → D → List D → Prop} {E : EdT} (h1 : 2 ≤ n) (h2 : n ≤ 100) (hl : gs.length ≤ 1000) (hd : ThOk d) (h : Q false (.bl (thrB n gs d)) []) : sis_thread [.int n, iL gs, d] Q E := ⟨n, gs, d, rfl, h1, h2, hl, hd, h⟩
theorem isIT_eq : ∀ d : D, isIntD d = isIT d := fun d => by cases d <;> rfl
theorem isint_map : ∀ ds : List D, ds.filterMap (fun d => some (D.bl (isIntD d))) = (ds.map isIT).map D.bl
  | [] => rfl
  | d :: ds => by rw [List.filterMap_cons_some (f := fun d => some (D.bl (isIntD d))) (b := D.bl (isIntD d)) rfl, isint_map ds, isIT_eq]; rfl
def barI (n : Nat) (r o : List Int) (a b : Int) : Bool := decide (0 ≤ a) && decide (a ≤ (n : Int) - 1) && decide (a < b) && decide (endAt o b < endAt o a) && decide (rkP r a ≤ rkP r b)
def barB (n : Nat) (r o : List Int) : D → D → Bool
  | .int a, .int b => barI n r o a b
  | _, _ => false
def sis_barred (C : Addr) : DSp := fun ds Q _ => ∃ (n : Nat) (r o : List Int) (x y : D), ds = [ringD C r, .tup (o.map D.int), x, y] ∧ r.length = n ∧ o.length = n ∧ 2 ≤ n ∧ n ≤ 100 ∧ (tyN x).isSome = true ∧ (tyN y).isSome = true ∧ Q false (.bl (barB n r o x y)) []
theorem i_isbar {C : Addr} {n : Nat} {r o : List Int} {x y : D} {Q : Bool → D → List D → Prop} {E : EdT} (hr : r.length = n) (hl : o.length = n) (h2 : 2 ≤ n) (h3 : n ≤ 100) (hx : (tyN x).isSome = true) (hy : (tyN y).isSome = true) (h : Q false (.bl (barB n r o x y)) []) : sis_barred C [ringD C r, .tup (o.map D.int), x, y] Q E := ⟨n, r, o, x, y, rfl, hr, hl, h2, h3, hx, hy, h⟩
theorem barB_l {n : Nat} {r o : List Int} {x y : D} {b : Bool} (h : btwD 0 ((n : Int) - 1) x = b) (hb : b = false) : barB n r o x y = false := by
  subst hb
  unfold barB
  split
  · have h : (decide _ && decide _) = false := h
    unfold barI
    rw [h]; rfl
  · rfl
inductive RsnR (n : Nat) (r gs o : List Int) : D → Bool → Prop
  | pass (a b : Int) : RsnR n r gs o (.tup [.str "pass", .int a, .int b]) (barI n r o a b)
  | kept (l : List Int) : RsnR n r gs o (.tup [.str "kept", iL l]) false
  | thread (l : List Int) (hl : l.length ≤ 2000) (hb : ∀ x ∈ l, x.natAbs < 2 ^ 160) : RsnR n r gs o (.tup [.str "thread", iL l]) (decide (l.length = gs.length + 1) && thN n gs l && decide (cntN l gs.length < carrO o (ig l 0) (ig l (-1))))
def sis_reason (C : Addr) : DSp := fun ds Q _ => ∃ (n : Nat) (r gs o : List Int) (d : D) (b : Bool), ds = [ringD C r, iL gs, .tup (o.map D.int), d] ∧ r.length = n ∧ o.length = n ∧ 2 ≤ n ∧ n ≤ 100 ∧ gs.length ≤ 1000 ∧ (∀ x ∈ o, x.natAbs < 2 ^ 160) ∧ RsnR n r gs o d b ∧ Q false (.bl b) []
theorem i_reason {C : Addr} {n : Nat} {r gs o : List Int} {d : D} {b : Bool} {Q : Bool → D → List D → Prop} {E : EdT} (hr : r.length = n) (hol : o.length = n) (h2 : 2 ≤ n) (h3 : n ≤ 100) (hl : gs.length ≤ 1000) (ho : ∀ x ∈ o, x.natAbs < 2 ^ 160) (hR : RsnR n r gs o d b) (h : Q false (.bl b) []) : sis_reason C [ringD C r, iL gs, .tup (o.map D.int), d] Q E := ⟨n, r, gs, o, d, b, rfl, hr, hol, h2, h3, hl, ho, hR, h⟩
theorem thOk_ints {l : List Int} (hl : l.length ≤ 2000) (hb : ∀ x ∈ l, x.natAbs < 2 ^ 160) : ThOk (iL l) := by
  refine ⟨rfl, fun ds h => (by cases h), fun ds h => ?_⟩
  injection h with h
  subst h
  refine ⟨fun x hx => ?_, by rw [List.length_map]; omega⟩
  obtain ⟨y, hy, rfl⟩ := List.mem_map.mp hx
  refine ⟨rfl, ?_, by show 0 ≤ 15; omega⟩
  have := hb y hy
  show decide _ = true
  refine decide_eq_true ?_
  exact Nat.lt_trans this (by decide)
abbrev slaw_take : DSp := takeD
def slaw_mixed : DSp := fun ds Q _ => ∃ (b : D) (l : List D), ds = [b, .lst l] ∧ BagD b ∧ l.length ≤ 1000 ∧ ∀ (m : List D) b', m.Perm l → BagD b' → Q true (.lst m) [b']
theorem i_mixed {b : D} {l : List D} {Q : Bool → D → List D → Prop} {E : EdT} (hb : BagD b) (h1 : l.length ≤ 1000) (h : ∀ (m : List D) b', m.Perm l → BagD b' → Q true (.lst m) [b']) : slaw_mixed [b, .lst l] Q E := ⟨b, l, rfl, hb, h1, h⟩
def slaw_any_outcome : DSp := fun ds Q _ => ∃ (b : D) (n : Nat) (laps : Int), ds = [b, .int n, .int laps] ∧ BagD b ∧ 2 ≤ n ∧ n ≤ 12 ∧ 0 ≤ laps ∧ laps ≤ 10 ^ 45 ∧ ∀ (o : List Int) b', Out n o → (∀ x ∈ o, x.natAbs < 2 ^ 160) → BagD b' → Q false (.tup (o.map D.int)) [b']
theorem i_anyout {b : D} {n : Nat} {laps : Int} {Q : Bool → D → List D → Prop} {E : EdT} (hb : BagD b) (h1 : 2 ≤ n) (h2 : n ≤ 12) (h3 : 0 ≤ laps) (h4 : laps ≤ 10 ^ 45) (h : ∀ (o : List Int) b', Out n o → (∀ x ∈ o, x.natAbs < 2 ^ 160) → BagD b' → Q false (.tup (o.map D.int)) [b']) : slaw_any_outcome [b, .int n, .int laps] Q E := ⟨b, n, laps, rfl, hb, h1, h2, h3, h4, h⟩
def unI : D → Int
  | .int i => i
  | _ => 0
theorem Out.bump {n : Nat} {o : List Int} (hp : (o.map fun x => x % (n : Int)).Perm (iota n)) {i : Nat} {k : Int} (hi : i < o.length) : ((o.set i (ig o (i : Int) + k * n)).map fun x => x % (n : Int)).Perm (iota n) := by
  have e : ((o.set i (ig o (i : Int) + k * n)).map fun x => x % (n : Int)) = o.map fun x => x % (n : Int) := by
    refine ig_ext (by simp) fun j hj => ?_
    rw [List.length_map, List.length_set] at hj
    rw [ig_map (by rw [List.length_set]; exact hj), ig_map hj, ig_set hi]
    split
    · next h => subst h; rw [Int.add_mul_emod_self_right]
    · rfl
  rw [e]; exact hp
def slaw_counted : DSp := fun ds Q _ => ∃ (t : List Int), ds = [iL t] ∧ 0 < t.length ∧ t.length < 20000 ∧ (∀ k : Nat, k + 1 < t.length → ig t (k : Int) ≤ ig t ((k : Int) + 1) + 1) ∧ Q false (.int (cntN t (t.length - 1))) []
theorem i_lcounted {t : List Int} {Q : Bool → D → List D → Prop} {E : EdT} (h0 : 0 < t.length) (hl : t.length < 20000) (hn : ∀ k : Nat, k + 1 < t.length → ig t (k : Int) ≤ ig t ((k : Int) + 1) + 1) (h : Q false (.int (cntN t (t.length - 1))) []) : slaw_counted [iL t] Q E := ⟨t, rfl, h0, hl, hn, h⟩
theorem cnt_filter1 {t : List Int} (hn : ∀ k : Nat, k + 1 < t.length → ig t (k : Int) ≤ ig t ((k : Int) + 1) + 1) : ∀ k : Nat, k < t.length → ((((List.range k).map fun i => (1 : Int) + ((i : Nat) : Int)).filter fun x => decide (ig t x < ig t (x - 1))).length : Int) = cntN t k
  | 0, _ => rfl
  | k + 1, h => by
    have ih := cnt_filter1 hn k (by omega)
    have := hn k (by omega)
    rw [List.range_succ, List.map_append, List.filter_append, List.length_append, Int.natCast_add, ih, cntN, List.map_singleton, List.filter_cons, List.filter_nil]
    rw [show (1 : Int) + (k : Int) = (k : Int) + 1 by omega, show (k : Int) + 1 - 1 = k by omega]
    by_cases hc : ig t ((k : Int) + 1) < ig t (k : Int)
    · rw [decide_eq_true hc, if_pos rfl, if_pos (by omega)]; rfl
    · rw [decide_eq_false hc, if_neg Bool.false_ne_true, if_neg (by omega)]; rfl
def slaw_ended : DSp := fun ds Q _ => ∃ (n : Nat) (t : List Int), ds = [iL t] ∧ Out n t ∧ n ≤ 1000 ∧ Q false (.tup ((invO t).map D.int)) []
theorem i_ended {n : Nat} {t : List Int} {Q : Bool → D → List D → Prop} {E : EdT} (h1 : Out n t) (h2 : n ≤ 1000) (h : Q false (.tup ((invO t).map D.int)) []) : slaw_ended [iL t] Q E := ⟨n, t, rfl, h1, h2, h⟩
def slaw_called : DSp := fun ds Q _ => ∃ (r t : List Int) (g : Nat), ds = [iL r, iL t, .int g] ∧ 2 ≤ r.length ∧ r.length ≤ 100 ∧ t.length = r.length ∧ g < r.length ∧ Q false (.bl (passT r t g)) [iL (callT r t g)]
theorem i_called {r t : List Int} {g : Nat} {Q : Bool → D → List D → Prop} {E : EdT} (h1 : 2 ≤ r.length) (h2 : r.length ≤ 100) (h3 : t.length = r.length) (h4 : g < r.length) (h : Q false (.bl (passT r t g)) [iL (callT r t g)]) : slaw_called [iL r, iL t, .int g] Q E := ⟨r, t, g, rfl, h1, h2, h3, h4, h⟩
def slaw_standing : DSp := fun ds Q _ => ∃ n : Nat, ds = [.int n] ∧ n ≤ 1000 ∧ Q true (iL (iota n)) []
theorem i_standing {n : Nat} {Q : Bool → D → List D → Prop} {E : EdT} (h1 : n ≤ 1000) (h : Q true (iL (iota n)) []) : slaw_standing [.int n] Q E := ⟨n, rfl, h1, h⟩
def slaw_run : DSp := fun ds Q _ => ∃ (n : Nat) (r gs : List Int), ds = [iL r, iL gs] ∧ r.length = n ∧ 2 ≤ n ∧ n ≤ 100 ∧ Sch n gs ∧ gs.length ≤ 1000 ∧ Q false (.tup [iL (runT r gs (iota n)), iL (passed r gs (iota n) 0)]) []
def slaw_run_of : DSp := fun ds Q _ => ∃ (n : Nat) (t gs : List Int), ds = [iL t, iL gs] ∧ Out n t ∧ 2 ≤ n ∧ n ≤ 1000 ∧ Sch n gs ∧ gs.length ≤ 1000 ∧ Q false (.tup [iL (runE gs t), iL (usefulE gs t 0)]) []
theorem i_runof {n : Nat} {t gs : List Int} {Q : Bool → D → List D → Prop} {E : EdT} (O : Out n t) (h1 : 2 ≤ n) (h2 : n ≤ 1000) (hs : Sch n gs) (hl : gs.length ≤ 1000) (h : Q false (.tup [iL (runE gs t), iL (usefulE gs t 0)]) []) : slaw_run_of [iL t, iL gs] Q E := ⟨n, t, gs, rfl, O, h1, h2, hs, hl, h⟩
theorem passE_lt {n : Nat} {t : List Int} (O : Out n t) (h1 : 2 ≤ n) {g : Nat} (hg : g < n) : passE t g = decide (ig t (g : Int) < ig t (nxP n g : Nat) + shP n g) := by
  have hl := O.len
  unfold passE
  rw [hl]
  have hne : ig t (g : Int) ≠ ig t (nxP n g : Nat) + shP n g := fun e => by
    have := congrArg (· % (n : Int)) e
    simp only [(shP_mod n g _).1] at this
    exact nxP_ne h1 hg (O.inj g (nxP n g) hg (nxP_lt (by omega)) this).symm
  by_cases h : ig t (g : Int) < ig t (nxP n g : Nat) + shP n g
  · rw [decide_eq_true h, decide_eq_true (by omega)]
  · rw [decide_eq_false h, decide_eq_false (by omega)]
theorem shP_int {n g : Nat} (hg : g < n) : (n : Int) * (if decide ((g : Int) = n - 1) = true then 1 else 0) = shP n g := by
  unfold shP
  by_cases h : g + 1 < n
  · rw [if_pos h, if_neg (by simp only [decide_eq_true_eq]; omega)]; omega
  · rw [if_neg h, if_pos (by simp only [decide_eq_true_eq]; omega)]; omega
theorem drop_getR {t : List Int} {i : Nat} {x : D} {xs : List D} (h : x :: xs = (t.drop i).map D.int) : i < t.length ∧ x = .int (ig t (i : Int)) ∧ xs = (t.drop (i + 1)).map D.int ∧ t.drop i = ig t (i : Int) :: t.drop (i + 1) ∧ ig t (i : Int) ∈ t := by
  by_cases hi : i < t.length
  · have e := List.drop_eq_getElem_cons hi
    rw [e, List.map_cons] at h
    injection h with h1 h2
    exact ⟨hi, by rw [h1, ig_get hi], h2, by rw [ig_get hi, e], by rw [ig_get hi]; exact List.getElem_mem hi⟩
  · rw [List.drop_of_length_le (by omega)] at h; cases h
def slaw_endless : DSp := fun ds Q _ => ∃ (n : Nat) (gs : List Int), ds = [.int n, iL gs] ∧ 2 ≤ n ∧ n ≤ 1000 ∧ Sch n gs ∧ gs.length ≤ 1000 ∧ Q false (.tup [iL (runE gs (iota n)), iL (usefulE gs (iota n) 0)]) []
theorem i_endless {n : Nat} {gs : List Int} {Q : Bool → D → List D → Prop} {E : EdT} (h1 : 2 ≤ n) (h2 : n ≤ 1000) (hs : Sch n gs) (hl : gs.length ≤ 1000) (h : Q false (.tup [iL (runE gs (iota n)), iL (usefulE gs (iota n) 0)]) []) : slaw_endless [.int n, iL gs] Q E := ⟨n, gs, rfl, h1, h2, hs, hl, h⟩
/-! all threads of a schedule that end at a gap -/
def stepsT (n : Nat) (c x : Int) : List Int := if (x - c) % (n : Int) = 0 then [x - 1, x + 1] else [x]
def allT (n : Nat) (e : Int) : List Int → List (List Int)
  | [] => [[e]]
  | c :: gs => (allT n e gs).flatMap fun t => (stepsT n c (ig t 0)).map fun s => s :: t
def prT (t : List Int) : Int := cntN t (t.length - 1)
theorem allT_len {n : Nat} {e : Int} : ∀ {gs : List Int} {t : List Int}, t ∈ allT n e gs → t.length = gs.length + 1
  | [], t, h => by rw [List.mem_singleton.mp h]; rfl
  | c :: gs, t, h => by
    obtain ⟨u, hu, h⟩ := List.mem_flatMap.mp h
    obtain ⟨s, -, rfl⟩ := List.mem_map.mp h
    rw [List.length_cons, allT_len hu, List.length_cons]
theorem ig_consT (s : Int) (t : List Int) (k : Nat) : ig (s :: t) ((k : Int) + 1) = ig t (k : Int) := by
  rw [show (k : Int) + 1 = ((k + 1 : Nat) : Int) by omega, ig_nat, ig_nat]; rfl
theorem cntN_cons (s : Int) (t : List Int) : ∀ k : Nat, cntN (s :: t) (k + 1) = cntN t k + if s = ig t 0 + 1 then 1 else 0
  | 0 => by
    show (0 : Int) + (if ig (s :: t) ((0 : Nat) : Int) = ig (s :: t) (((0 : Nat) : Int) + 1) + 1 then 1 else 0) = 0 + _
    rw [ig_consT]
    rfl
  | k + 1 => by
    rw [cntN, cntN_cons s t k, cntN, show ((k + 1 : Nat) : Int) + 1 = ((k + 1 : Nat) : Int) + 1 from rfl, ig_consT, show ((k + 1 : Nat) : Int) = (k : Int) + 1 by omega, ig_consT]
    omega
theorem prT_cons {s : Int} {t : List Int} (h : 0 < t.length) : prT (s :: t) = prT t + if s = ig t 0 + 1 then 1 else 0 := by
  unfold prT
  rw [List.length_cons, show t.length + 1 - 1 = (t.length - 1) + 1 by omega, cntN_cons]
/-- the least prices of some threads, by where they begin -/
def LsT (T : List (List Int)) (P : Int → Option Int) : Prop := ∀ g, (∀ t ∈ T, ig t 0 = g → ∃ p, P g = some p ∧ p ≤ prT t) ∧ ∀ p, P g = some p → ∃ t ∈ T, ig t 0 = g ∧ prT t = p
theorem LsT.uniq {T : List (List Int)} {P R : Int → Option Int} (h1 : LsT T P) (h2 : LsT T R) (g : Int) : P g = R g := by
  cases hp : P g with
  | none =>
    cases hr : R g with
    | none => rfl
    | some r =>
      obtain ⟨t, ht, e, _⟩ := (h2 g).2 r hr
      obtain ⟨p, h, _⟩ := (h1 g).1 t ht e
      rw [hp] at h; cases h
  | some p =>
    obtain ⟨t, ht, e, ep⟩ := (h1 g).2 p hp
    obtain ⟨r, hr, hle⟩ := (h2 g).1 t ht e
    obtain ⟨t', ht', e', er⟩ := (h2 g).2 r hr
    obtain ⟨p', hp', hle'⟩ := (h1 g).1 t' ht' e'
    rw [hp] at hp'
    cases hp'
    rw [hr]
    congr 1
    omega
theorem LsT.nil : LsT [] fun _ => none := fun g => ⟨fun t h => absurd h (by simp), fun p h => nomatch h⟩
theorem LsT.all {n : Nat} {e : Int} : ∀ gs : List Int, LsT (allT n e gs) (prP n e gs)
  | [] => fun g => by
    show (∀ t ∈ [[e]], ig t 0 = g → ∃ p, (if g = e then some (0 : Int) else none) = some p ∧ p ≤ prT t) ∧ ∀ p, (if g = e then some (0 : Int) else none) = some p → ∃ t ∈ [[e]], ig t 0 = g ∧ prT t = p
    refine ⟨fun t ht et => ?_, fun p hp => ?_⟩
    · rw [List.mem_singleton.mp ht] at et ⊢
      have et : e = g := et
      exact ⟨0, if_pos et.symm, Int.le_refl _⟩
    · by_cases z : g = e
      · rw [if_pos z] at hp
        exact ⟨[e], List.mem_singleton.mpr rfl, z.symm, Option.some.inj hp⟩
      · rw [if_neg z] at hp; cases hp
  | c :: gs => fun g => by
    have ih := LsT.all (n := n) (e := e) gs
    refine ⟨fun t ht et => ?_, fun p hp => ?_⟩
    · obtain ⟨u, hu, h⟩ := List.mem_flatMap.mp ht
      obtain ⟨s, hs, rfl⟩ := List.mem_map.mp h
      have es : s = g := et
      subst es
      have ul := allT_len hu
      obtain ⟨p0, hp0, hle⟩ := (ih (ig u 0)).1 u hu rfl
      rw [prT_cons (by omega)]
      have step : StepP n c (prP n e gs) s (p0 + if s = ig u 0 + 1 then 1 else 0) (ig u 0) := by
        unfold stepsT at hs
        split at hs
        · rename_i hc
          simp only [List.mem_cons, List.not_mem_nil, or_false] at hs
          rcases hs with rfl | rfl
          · refine .inr (.inl ⟨by omega, ?_, ?_⟩)
            · rw [show ig u 0 - 1 + 1 = ig u 0 by omega]; exact hc
            · rw [show ig u 0 - 1 + 1 = ig u 0 by omega, hp0, if_neg (by omega)]; congr 1; omega
          · refine .inr (.inr ⟨by omega, ?_, ?_⟩)
            · rw [show ig u 0 + 1 - 1 = ig u 0 by omega]; exact hc
            · rw [show ig u 0 + 1 - 1 = ig u 0 by omega, hp0, if_pos rfl]; congr 1; omega
        · rename_i hc
          rw [List.mem_singleton.mp hs]
          refine .inl ⟨rfl, hc, ?_⟩
          rw [hp0, if_neg (by omega), Int.add_zero]
      obtain ⟨q, h1, h2⟩ := stP_le step
      exact ⟨q, h1, by omega⟩
    · obtain ⟨x, hx⟩ := stP_some hp
      have mk : ∀ p0, prP n e gs x = some p0 → g ∈ stepsT n c x → p = p0 + (if g = x + 1 then 1 else 0) → ∃ t ∈ allT n e (c :: gs), ig t 0 = g ∧ prT t = p := fun p0 h0 hs hp => by
        obtain ⟨u, hu, e1, e2⟩ := (ih x).2 p0 h0
        have ul := allT_len hu
        refine ⟨g :: u, List.mem_flatMap.mpr ⟨u, hu, List.mem_map.mpr ⟨g, by rw [e1]; exact hs, rfl⟩⟩, rfl, ?_⟩
        rw [prT_cons (by omega), e1, e2, hp]
      rcases hx with ⟨rfl, hc, h⟩ | ⟨rfl, hc, h⟩ | ⟨rfl, hc, h⟩
      · exact mk p h (by unfold stepsT; rw [if_neg hc]; simp) (by rw [if_neg (by omega)]; omega)
      · exact mk p h (by unfold stepsT; rw [if_pos hc]; simp) (by rw [if_neg (by omega)]; omega)
      · exact mk (p - 1) h (by unfold stepsT; rw [if_pos hc]; simp) (by rw [if_pos (by omega)]; omega)
/-- l lists the places that the person of a place passes -/
structure PB (o : List Int) (a : Int) (l : List Int) : Prop where
  asc : l.Pairwise (· < ·)
  mem : ∀ q, q ∈ l ↔ a < q ∧ endAt o q < endAt o a
theorem lt_nodup {l : List Int} (h : l.Pairwise (· < ·)) : l.Nodup := h.imp fun h => by omega
theorem PB.uniq {o : List Int} {a : Int} {l m : List Int} (h1 : PB o a l) (h2 : PB o a m) : l = m :=
  sorted_ints (ns := m) ((List.perm_ext_iff_of_nodup (lt_nodup h1.asc) (lt_nodup h2.asc)).mpr fun q => by rw [h1.mem, h2.mem]) (h1.asc.imp fun h => by omega) (List.Perm.refl _) (h2.asc.imp fun h => by omega)
/-- found so far: all that begin less than s behind, but for whole laps -/
structure Pby (n : Nat) (o : List Int) (a : Nat) (B s : Nat) (acc : List Int) : Prop where
  nd : acc.Nodup
  mem : ∀ q, q ∈ acc ↔ (a < q ∧ endAt o q < endAt o a) ∧ (q - a) % (n : Int) < s
  len : acc.length ≤ s * (2 * B)
structure Pin (n : Nat) (o : List Int) (a : Nat) (B s k : Nat) (acc : List Int) : Prop where
  nd : acc.Nodup
  mem : ∀ q, q ∈ acc ↔ ((a < q ∧ endAt o q < endAt o a) ∧ (q - a) % (n : Int) < s) ∨ ∃ j : Nat, j < k ∧ q = a + s + j * n
  low : ∀ j : Nat, j < k → endAt o (a + s + j * n) < endAt o a
  len : acc.length ≤ s * (2 * B) + k
theorem end_lap {n : Nat} {o : List Int} (O : Out n o) (h : 0 < n) (x : Int) (j : Nat) : endAt o (x + j * n) = endAt o x + j * n := by
  have := endAt_lap o x j (by rw [O.len]; exact h)
  rw [O.len] at this; exact this
theorem end_low {n B : Nat} {o : List Int} (O : Out n o) (h : 0 < n) (hb : ∀ x ∈ o, x.natAbs ≤ B) {x : Int} (hx : 0 ≤ x) : -(B : Int) ≤ endAt o x := by
  obtain ⟨i, hi, ei, exx⟩ := unroll n h x
  have m := hb (ig o (i : Int)) (ig_mem ⟨by omega, by rw [O.len]; omega⟩)
  have hd : 0 ≤ x / (n : Int) := Int.ediv_nonneg hx (by omega)
  have : 0 ≤ x / (n : Int) * n := Int.mul_nonneg hd (by omega)
  unfold endAt
  rw [O.len, ei]
  omega
theorem Pin.start {n B s a : Nat} {o acc : List Int} (W : Pby n o a B s acc) : Pin n o a B s 0 acc :=
  ⟨W.nd, fun q => by rw [W.mem]; exact ⟨fun h => .inl h, fun h => h.elim id fun ⟨j, hj, _⟩ => by omega⟩, fun j hj => by omega, by have := W.len; omega⟩
theorem mod_step {n s j : Nat} {a : Int} (hs : s < n) : (a + s + j * n - a) % (n : Int) = s := by
  rw [show a + s + j * n - a = (s : Int) + j * n by omega, Int.add_mul_emod_self_right, Int.emod_eq_of_lt (by omega) (by omega)]
theorem Pin.step {n B s k a : Nat} {o acc : List Int} (hs : s < n) (W : Pin n o a B s k acc) (hlt : endAt o (a + s + k * n) < endAt o a) : Pin n o a B s (k + 1) (acc ++ [(a : Int) + s + k * n]) := by
  have hn : (0 : Int) < n := by omega
  have fresh : (a : Int) + s + k * n ∉ acc := fun h => by
    rcases (W.mem _).mp h with ⟨_, h⟩ | ⟨j, hj, e⟩
    · rw [mod_step hs] at h; omega
    · have h2 : (k : Int) * n = j * n := by omega
      have := Int.eq_of_mul_eq_mul_right (by omega) h2
      omega
  refine ⟨?_, fun q => ?_, fun j hj => ?_, by rw [List.length_append, List.length_singleton]; have := W.len; omega⟩
  · rw [List.nodup_append]
    exact ⟨W.nd, by simp, fun x hx y hy e => fresh (by rw [List.mem_singleton.mp hy] at e; rw [← e]; exact hx)⟩
  · rw [List.mem_append, List.mem_singleton, W.mem]
    constructor
    · rintro ((h | ⟨j, hj, e⟩) | e)
      · exact .inl h
      · exact .inr ⟨j, by omega, e⟩
      · exact .inr ⟨k, by omega, e⟩
    · rintro (h | ⟨j, hj, e⟩)
      · exact .inl (.inl h)
      · by_cases hjk : j = k
        · subst hjk; exact .inr e
        · exact .inl (.inr ⟨j, by omega, e⟩)
  · by_cases hjk : j = k
    · subst hjk; exact hlt
    · exact W.low j (by omega)
theorem Pin.many {n B s k a : Nat} {o acc : List Int} (O : Out n o) (h1 : 2 ≤ n) (ha : a < n) (hb : ∀ x ∈ o, x.natAbs ≤ B) (W : Pin n o a B s k acc) : k ≤ 2 * B := by
  by_cases hk : k = 0
  · omega
  · have h := W.low (k - 1) (by omega)
    rw [end_lap O (by omega)] at h
    have l := end_low O (by omega) hb (x := (a : Int) + s) (by omega)
    have u := hb (ig o (a : Int)) (ig_mem ⟨by omega, by rw [O.len]; omega⟩)
    rw [endAt_nat (by rw [O.len]; exact ha)] at h
    have p : (((k - 1 : Nat) : Int)) * 1 ≤ ((k - 1 : Nat) : Int) * n := Int.mul_le_mul_of_nonneg_left (by omega) (by omega)
    omega
theorem Pin.done {n B s k a : Nat} {o acc : List Int} (O : Out n o) (h1 : 2 ≤ n) (ha : a < n) (hb : ∀ x ∈ o, x.natAbs ≤ B) (hs0 : 0 < s) (hs : s < n) (W : Pin n o a B s k acc) (hge : ¬ endAt o (a + s + k * n) < endAt o a) : Pby n o a B (s + 1) acc := by
  refine ⟨W.nd, fun q => ?_, by have := W.len; have := W.many O h1 ha hb; rw [Nat.add_mul]; omega⟩
  rw [W.mem]
  constructor
  · rintro (⟨h, hm⟩ | ⟨j, hj, rfl⟩)
    · exact ⟨h, by omega⟩
    · have : 0 ≤ (j : Int) * n := Int.mul_nonneg (by omega) (by omega)
      exact ⟨⟨by omega, W.low j hj⟩, by rw [mod_step hs]; omega⟩
  · rintro ⟨h, hm⟩
    by_cases hms : (q - a) % (n : Int) = s
    · refine .inr ?_
      obtain ⟨i, hi, ei, exx⟩ := unroll n (by omega) (q - a)
      have hd : 0 ≤ (q - (a : Int)) / (n : Int) := Int.ediv_nonneg (by omega) (by omega)
      obtain ⟨j, hj⟩ := Int.eq_ofNat_of_zero_le hd
      have eq : q = a + s + j * n := by rw [hj] at exx; omega
      refine ⟨j, ?_, eq⟩
      rcases Nat.lt_or_ge j k with hjk | hjk
      · exact hjk
      · exfalso
        have h2 := h.2
        rw [eq, end_lap O (by omega)] at h2
        rw [end_lap O (by omega)] at hge
        have : (k : Int) * n ≤ j * n := Int.mul_le_mul_of_nonneg_right (by omega) (by omega)
        omega
    · exact .inl ⟨h, by omega⟩
theorem Pby.all {n B a : Nat} {o acc : List Int} (h : 0 < n) (W : Pby n o a B n acc) (q : Int) : q ∈ acc ↔ a < q ∧ endAt o q < endAt o a := by
  rw [W.mem]
  exact ⟨fun h => h.1, fun h => ⟨h, Int.emod_lt_of_pos _ (by omega)⟩⟩
/-- f a lists the places that the person of a place passes -/
structure PLs (n : Nat) (o : List Int) (ls : List (List Int)) : Prop where
  len : ls.length = n
  at_ : ∀ a : Nat, a < n → PB o a (ls[a]?.getD [])
theorem PLs.uniq {n : Nat} {o : List Int} {ls ms : List (List Int)} (h1 : PLs n o ls) (h2 : PLs n o ms) : ls = ms := by
  refine List.ext_getElem (by rw [h1.len, h2.len]) fun a ha hb => ?_
  have e1 := h1.at_ a (by rw [← h1.len]; exact ha)
  have e2 := h2.at_ a (by rw [← h1.len]; exact ha)
  rw [List.getElem?_eq_getElem ha] at e1
  rw [List.getElem?_eq_getElem hb] at e2
  exact e1.uniq e2
def filt (o : List Int) (a : Int) (k : Nat) : List Int := ((List.range k).map fun i => a + 1 + ((i : Nat) : Int)).filter fun q => decide (endAt o q < endAt o a)
theorem filt_pb {o : List Int} {a : Int} {k : Nat} (h : ∀ q, a < q → endAt o q < endAt o a → q - a - 1 < k) : PB o a (filt o a k) := by
  refine ⟨List.Pairwise.filter _ ?_, fun q => ?_⟩
  · rw [List.pairwise_map]
    exact List.pairwise_lt_range.imp fun h => by omega
  · unfold filt
    rw [List.mem_filter, decide_eq_true_iff, List.mem_map]
    constructor
    · rintro ⟨⟨i, hi, rfl⟩, h2⟩; exact ⟨by omega, h2⟩
    · rintro ⟨h1, h2⟩
      have := h q h1 h2
      exact ⟨⟨(q - a - 1).toNat, List.mem_range.mpr (by omega), by omega⟩, h2⟩
theorem filt_len (o : List Int) (a : Int) (k : Nat) : (filt o a k).length ≤ k := by
  have := List.length_filter_le (fun q => decide (endAt o q < endAt o a)) ((List.range k).map fun i => a + 1 + ((i : Nat) : Int))
  rw [List.length_map, List.length_range] at this
  exact this
/-- how far off those can begin that are passed -/
theorem pass_far {n : Nat} {o : List Int} (O : Out n o) (h : 0 < n) {lo hi : Int} (hb : ∀ x ∈ o, lo ≤ x ∧ x ≤ hi) {a : Nat} (ha : a < n) {q : Int} (h2 : endAt o q < endAt o (a : Int)) : q < hi - lo + n := by
  obtain ⟨i, hi', ei, exx⟩ := unroll n h q
  have m := hb (ig o (i : Int)) (ig_mem ⟨by omega, by rw [O.len]; omega⟩)
  have m2 := hb (ig o (a : Int)) (ig_mem ⟨by omega, by rw [O.len]; omega⟩)
  rw [endAt_nat (by rw [O.len]; exact ha)] at h2
  unfold endAt at h2
  rw [O.len, ei] at h2
  omega
theorem PB.len {n B : Nat} {o : List Int} (O : Out n o) (h : 0 < n) (hb : ∀ x ∈ o, x.natAbs ≤ B) {a : Nat} (ha : a < n) {l : List Int} (W : PB o a l) : l.length ≤ 2 * B + n := by
  have W2 := filt_pb (o := o) (a := a) (k := 2 * B + n) fun q h1 h2 => by
    have := pass_far O h (lo := -(B : Int)) (hi := B) (fun x hx => by have := hb x hx; omega) ha h2
    omega
  rw [W.uniq W2]
  exact filt_len _ _ _
def plP : Nat → List (List Int) → List (Int × Int)
  | _, [] => []
  | a, l :: ls => l.map (fun q => ((a : Int), q)) ++ plP (a + 1) ls
/-! how many passes there are -/
theorem S2_callE {n : Nat} {t : List Int} (O : Out n t) (h2 : 2 ≤ n) {k : Nat} (hk : k < n) : S2 n (LW.callE t k) = S2 n t + if passE t k = true then 2 else 0 := by
  unfold LW.callE
  by_cases hp : passE t k = true
  · rw [if_pos hp, if_pos hp]
    have h := passE_lt' O h2 hk hp
    rw [endAt_nat (by rw [O.len]; omega), endAt_next (by rw [O.len]; omega) (by rw [O.len]; omega), O.len] at h
    exact S2_up O h2 hk h
  · rw [if_neg hp, if_neg hp]; rfl
/-! ### the list of passes is as long -/
theorem sumN_swap (f : Nat → Nat → Nat) (m : Nat) : ∀ n : Nat, sumN n (fun i => sumN m fun j => f i j) = sumN m fun j => sumN n fun i => f i j
  | 0 => by
    show 0 = sumN m fun j => 0
    rw [sumN_zero]
  | n + 1 => by
    rw [sumN_succ, sumN_swap f m n, ← sumN_add]
    exact sumN_congr fun j _ => (sumN_succ n fun i => f i j).symm
theorem sumN_cast (f : Nat → Nat) : ∀ n : Nat, ((sumN n f : Nat) : Int) = ((List.range n).map fun i => ((f i : Nat) : Int)).sum
  | 0 => rfl
  | n + 1 => by
    rw [sumN_succ, List.range_succ, List.map_append, List.sum_append, List.map_singleton, List.sum_singleton, ← sumN_cast f n]; omega
def fpN (n : Nat) (o : List Int) (a q : Nat) : Nat := ((ig o (a : Int) - 1 - ig o (q : Int)) / (n : Int) - ((a : Int) - q) / (n : Int)).toNat
theorem fp_sum {n : Nat} {o : List Int} (O : Out n o) {a q : Nat} (ha : a < n) (hq : q < n) : fpN n o a q + fpN n o q a = Fo n o a q := by
  have key : ∀ a q : Nat, a < q → q < n → fpN n o a q + fpN n o q a = ((ig o (q : Int) - ig o (a : Int)) / (n : Int)).natAbs := fun a q h hq => by
    have hd : ¬ (ig o (q : Int) - ig o (a : Int)) % (n : Int) = 0 := fun z => by
      have := O.inj a q (by omega) hq (sub_emod_zero z).symm
      omega
    have r0 := Int.emod_nonneg (ig o (q : Int) - ig o (a : Int)) (show (n : Int) ≠ 0 by omega)
    have r1 := Int.emod_lt_of_pos (ig o (q : Int) - ig o (a : Int)) (show (0 : Int) < n by omega)
    have e1 : (ig o (q : Int) - 1 - ig o (a : Int)) / (n : Int) = (ig o (q : Int) - ig o (a : Int)) / n := by
      rw [show ig o (q : Int) - 1 - ig o (a : Int) = ig o (q : Int) - ig o (a : Int) - 1 by omega]
      exact ediv_pred (by omega) hd
    have e2 : (ig o (a : Int) - 1 - ig o (q : Int)) / (n : Int) = -((ig o (q : Int) - ig o (a : Int)) / n) - 1 := by
      have hne : ¬ (ig o (a : Int) - ig o (q : Int)) % (n : Int) = 0 := fun z => hd (by
        have := sub_emod_zero z
        exact emod_sub_zero this.symm)
      rw [show ig o (a : Int) - 1 - ig o (q : Int) = ig o (a : Int) - ig o (q : Int) - 1 by omega, ediv_pred (by omega) hne, show ig o (a : Int) - ig o (q : Int) = -(ig o (q : Int) - ig o (a : Int)) by omega]
      exact neg_ediv (by omega) hd
    have e3 : ((a : Int) - q) / (n : Int) = -1 := by
      have q1 := Int.add_mul_ediv_right ((a : Int) - q + n) (-1) (show (n : Int) ≠ 0 by omega)
      rw [show (a : Int) - q + n + -1 * n = (a : Int) - q by omega, Int.ediv_eq_zero_of_lt (a := (a : Int) - q + n) (by omega) (by omega)] at q1
      exact q1
    have e4 : ((q : Int) - a) / (n : Int) = 0 := Int.ediv_eq_zero_of_lt (by omega) (by omega)
    unfold fpN
    rw [e1, e2, e3, e4]
    generalize (ig o (q : Int) - ig o (a : Int)) / (n : Int) = D
    omega
  unfold Fo
  by_cases h1 : a < q
  · rw [if_pos h1]; exact key a q h1 hq
  · rw [if_neg h1]
    by_cases h3 : q < a
    · rw [if_pos h3, Nat.add_comm]; exact key q a h3 ha
    · rw [if_neg h3]
      have : a = q := by omega
      subst this
      unfold fpN
      have e : (ig o (a : Int) - 1 - ig o (a : Int)) / (n : Int) = -1 := by
        have q1 := Int.add_mul_ediv_right (-1 + (n : Int)) (-1) (show (n : Int) ≠ 0 by omega)
        rw [show -1 + (n : Int) + -1 * n = ig o (a : Int) - 1 - ig o (a : Int) by omega, Int.ediv_eq_zero_of_lt (a := -1 + (n : Int)) (by omega) (by omega)] at q1
        exact q1
      rw [e, Int.sub_self, Int.zero_ediv]; rfl
theorem fp_total {n : Nat} {o : List Int} (O : Out n o) : sumN n (fun a => sumN n fun q => fpN n o a q) = pcN n o := by
  have h : S2 n o = sumN n (fun a => sumN n fun q => fpN n o a q) + sumN n (fun a => sumN n fun q => fpN n o q a) := by
    unfold S2
    rw [← sumN_add]
    refine sumN_congr fun a ha => ?_
    rw [← sumN_add]
    exact sumN_congr fun q hq => (fp_sum O ha hq).symm
  rw [sumN_swap (fun a q => fpN n o q a) n n, S2_pc] at h
  omega
theorem nodup_len {l m : List Int} (hl : l.Nodup) (hm : m.Nodup) (h : ∀ x, x ∈ l ↔ x ∈ m) : l.length = m.length := ((List.perm_ext_iff_of_nodup hl hm).mpr h).length_eq
theorem far_of (o : List Int) : ∃ far : Nat, ∀ i : Nat, i < o.length → (ig o (i : Int) - i).natAbs ≤ far := by
  have : ∀ k : Nat, ∃ far : Nat, ∀ i : Nat, i < k → (ig o (i : Int) - i).natAbs ≤ far := fun k => by
    induction k with
    | zero => exact ⟨0, fun i h => absurd h (by omega)⟩
    | succ k ih =>
      obtain ⟨far, h⟩ := ih
      refine ⟨max far (ig o (k : Int) - k).natAbs, fun i hi => ?_⟩
      by_cases e : i = k
      · subst e; omega
      · have := h i (by omega); omega
  exact this _
theorem PB.count {n : Nat} {o : List Int} (O : Out n o) (h2 : 2 ≤ n) {a : Nat} (ha : a < n) {l : List Int} (W : PB o a l) : l.length = sumN n fun q => fpN n o a q := by
  have hl := O.len
  have hl' : (invO o).length = n := by rw [invO_len, hl]
  obtain ⟨f1, hf1⟩ := far_of o
  obtain ⟨f2, hf2⟩ := far_of (invO o)
  obtain ⟨far, hfar⟩ : ∃ far : Nat, far = f1 + f2 + n := ⟨_, rfl⟩
  have hE := hf1 a (by omega)
  rw [← endAt_nat (by omega)] at hE
  have hc := carrO_count (o := invO o) (by omega) (far := far) (e := a) (fun i hi => by have := hf2 i hi; omega) (endAt o (a : Int) - a + far).toNat
  rw [show (a : Int) - far + (((endAt o (a : Int) - a + far).toNat : Nat) : Int) - 1 = endAt o (a : Int) - 1 by omega, carrO_cT O (by omega)] at hc
  have hm : l.length = ((((List.range (endAt o (a : Int) - a + far).toNat).map fun i => (a : Int) - far + (i : Nat)).filter fun x => decide ((a : Int) < endAt (invO o) x))).length := by
    rw [← List.length_map (as := l) (f := endAt o)]
    refine nodup_len ?_ ?_ fun x => ?_
    · rw [List.nodup_iff_pairwise_ne, List.pairwise_map]
      exact (lt_nodup W.asc).imp fun hne e => hne (O.endAt_inj (by omega) e)
    · rw [List.nodup_iff_pairwise_ne]
      refine List.Pairwise.filter _ ?_
      rw [List.pairwise_map]
      exact (List.pairwise_lt_range).imp fun h e => by omega
    · rw [List.mem_map, List.mem_filter, List.mem_map, decide_eq_true_iff]
      constructor
      · rintro ⟨q, hq, rfl⟩
        obtain ⟨q1, q2⟩ := (W.mem q).mp hq
        rw [O.end_inv (by omega)]
        refine ⟨⟨(endAt o q - a + far).toNat, List.mem_range.mpr ?_, ?_⟩, q1⟩
        · omega
        · have : q - far ≤ endAt o q := by
            obtain ⟨i, hi, ei, ex⟩ := unroll n (by omega) q
            have h3 := hf1 i (by omega)
            unfold endAt
            rw [hl, ei]
            omega
          omega
      · rintro ⟨⟨i, hi, rfl⟩, hx⟩
        have hi := List.mem_range.mp hi
        generalize hxx : (a : Int) - far + (i : Nat) = x at hx
        have hinv : endAt o (endAt (invO o) x) = x := by
          have := O.inv.end_inv (by omega) x
          rw [O.inv_inv] at this
          exact this
        exact ⟨endAt (invO o) x, (W.mem _).mpr ⟨hx, by rw [hinv]; omega⟩, hinv⟩
  have e : ((l.length : Nat) : Int) = ((sumN n fun q => fpN n o a q : Nat) : Int) := by
    rw [hm, hc, sumN_cast]
    unfold cT fpN
    refine DL.sum_congr fun q hq => ?_
    rw [endAt_nat (by omega)]
    omega
  omega
theorem plP_len : ∀ (ls : List (List Int)) (k : Nat), (plP k ls).length = sumN ls.length fun a => (ls[a]?.getD []).length
  | [], _ => rfl
  | l :: ls, k => by
    rw [plP, List.length_append, List.length_map, plP_len ls (k + 1), List.length_cons]
    have e : sumN (ls.length + 1) (fun a => ((l :: ls)[a]?.getD []).length) = l.length + sumN ls.length fun a => (ls[a]?.getD []).length := by
      unfold sumN
      rw [List.range_succ_eq_map, List.map_cons, List.sum_cons, List.map_map]
      rfl
    rw [e]
theorem PLs.count {n : Nat} {o : List Int} {ls : List (List Int)} (O : Out n o) (h2 : 2 ≤ n) (W : PLs n o ls) : (plP 0 ls).length = pcN n o := by
  rw [plP_len, W.len, ← fp_total O]
  exact sumN_congr fun a ha => PB.count O h2 ha (W.at_ a ha)
/-! what carries no more has no more passes -/
def LeC (n : Nat) (t u : List Int) : Prop := ∀ b e : Int, cT n t b e ≤ cT n u b e
def desc (n : Nat) (t : List Int) (k : Nat) : Prop := ig t (nxP n k : Nat) + shP n k < ig t (k : Int)
/-- at a gap that is not passed once more: the greatest value -/
theorem cT_low {n : Nat} {t : List Int} (O : Out n t) (h2 : 2 ≤ n) {k : Nat} (hk : k < n) (hd : ¬ desc n t k) {b e : Int} (he : (e - k) % (n : Int) = 0) : cT n t b e = max (cT n t b (e - 1) - 1) (cT n t b (e + 1)) := by
  obtain ⟨j, ej, e1, e2⟩ := at_gap O.len h2 hk he
  have s1 := cT_step O (by omega) b e
  have s2 := cT_step O (by omega) b (e + 1)
  rw [e1] at s1
  rw [e2, show e + 1 - 1 = e by omega] at s2
  unfold desc at hd
  unfold boI at s1 s2
  simp only [decide_eq_true_eq] at s1 s2
  generalize j * (n : Int) = jn at *
  by_cases c1 : ig t (k : Int) + jn ≤ b <;> by_cases c2 : ig t (nxP n k : Nat) + shP n k + jn ≤ b <;> simp only [c1, c2, if_true, if_false] at s1 s2 <;> omega
theorem cT_down {n : Nat} {t : List Int} (O : Out n t) (h2 : 2 ≤ n) {k : Nat} (hk : k < n) (hd : desc n t k) (b e : Int) : cT n (swapT t k) b e = if (e - k) % (n : Int) = 0 then max (cT n t b (e - 1) - 1) (cT n t b (e + 1)) else cT n t b e := by
  have hs := cT_swap O.len h2 b e hk
  by_cases he : (e - k) % (n : Int) = 0
  · rw [if_pos he] at hs ⊢
    obtain ⟨j, ej, e1, e2⟩ := at_gap O.len h2 hk he
    have s1 := cT_step O (by omega) b e
    have s2 := cT_step O (by omega) b (e + 1)
    rw [e1] at s1
    rw [e2, show e + 1 - 1 = e by omega] at s2
    rw [show e - (k : Int) = j * n by omega] at hs
    unfold desc at hd
    unfold boI at s1 s2 hs
    simp only [decide_eq_true_eq] at s1 s2 hs
    generalize j * (n : Int) = jn at *
    by_cases c1 : ig t (k : Int) + jn ≤ b <;> by_cases c2 : ig t (nxP n k : Nat) + shP n k + jn ≤ b <;> simp only [c1, c2, if_true, if_false] at s1 s2 hs <;> omega
  · rw [if_neg he] at hs ⊢
    omega
/-- with one pass less at a gap, where there is one -/
def dnT (n : Nat) (t : List Int) (k : Nat) : List Int := if ig t (nxP n k : Nat) + shP n k < ig t (k : Int) then swapT t k else t
theorem dnT_out {n : Nat} {t : List Int} (O : Out n t) (h2 : 2 ≤ n) {k : Nat} (hk : k < n) : Out n (dnT n t k) := by
  unfold dnT
  split
  · exact O.swap h2 hk
  · exact O
theorem cT_dn {n : Nat} {t : List Int} (O : Out n t) (h2 : 2 ≤ n) {k : Nat} (hk : k < n) (b e : Int) : cT n (dnT n t k) b e = if (e - k) % (n : Int) = 0 then max (cT n t b (e - 1) - 1) (cT n t b (e + 1)) else cT n t b e := by
  unfold dnT
  by_cases hd : ig t (nxP n k : Nat) + shP n k < ig t (k : Int)
  · rw [if_pos hd, cT_down O h2 hk hd]
  · rw [if_neg hd]
    split
    · rename_i he; exact cT_low O h2 hk hd he
    · rfl
theorem S2_dn {n : Nat} {t : List Int} (O : Out n t) (h2 : 2 ≤ n) {k : Nat} (hk : k < n) : S2 n t ≤ S2 n (dnT n t k) + 2 := by
  unfold dnT
  by_cases hd : ig t (nxP n k : Nat) + shP n k < ig t (k : Int)
  · rw [if_pos hd]
    have := S2_swap O h2 hk hd
    omega
  · rw [if_neg hd]; omega
theorem LeC.dn {n : Nat} {w v : List Int} (O : Out n w) (V : Out n v) (h2 : 2 ≤ n) {k : Nat} (hk : k < n) (hv : ¬ desc n v k) (h : LeC n w (swapT v k)) : LeC n (dnT n w k) v := fun b e => by
  have out : ∀ x : Int, ¬ (x - k) % (n : Int) = 0 → cT n w b x ≤ cT n v b x := fun x hx => by
    have := cT_swap V.len h2 b x hk
    rw [if_neg hx] at this
    have := h b x
    omega
  rw [cT_dn O h2 hk]
  split
  · rename_i he
    have a1 := out (e - 1) (by rw [show e - 1 - (k : Int) = e - k - 1 by omega]; exact sub1_mod h2 he)
    have a2 := out (e + 1) (fun z => by
      have := sub1_mod h2 z
      rw [show e + 1 - (k : Int) - 1 = e - k by omega] at this
      exact this he)
    rw [cT_low V h2 hk hv he]
    omega
  · rename_i he
    exact out e he
theorem sum_all0 {f : Nat → Int} : ∀ {n : Nat}, (∀ i, i < n → 0 ≤ f i) → ((List.range n).map f).sum = 0 → ∀ i, i < n → f i = 0
  | 0, _, _, i, hi => absurd hi (by omega)
  | n + 1, h, hs, i, hi => by
    rw [List.range_succ, List.map_append, List.sum_append, List.map_singleton, List.sum_singleton] at hs
    have h1 := DL.sum_nonneg (n := n) (f := f) fun j hj => h j (by omega)
    have h2 := h n (by omega)
    by_cases e : i = n
    · subst e; omega
    · exact sum_all0 (n := n) (fun j hj => h j (by omega)) (by omega) i (by omega)
theorem cT_nonneg {n : Nat} (t : List Int) (b e : Int) : 0 ≤ cT n t b e := DL.sum_nonneg fun _ _ => by omega
theorem LeC.ident {n : Nat} {w : List Int} (O : Out n w) (h0 : 0 < n) (h : LeC n w (iota n)) : w = iota n := by
  have up : ∀ q : Int, q ≤ endAt w q := fun q => by
    have a := h (q - 1) (q - 1)
    rw [cT_iota h0] at a
    have b := cT_nonneg (n := n) w (q - 1) q
    have s := cT_step O h0 (q - 1) q
    unfold boI at s
    split at s
    · omega
    · rename_i hc
      have hc : q - 1 < endAt w q := by simpa using hc
      omega
  have hl := O.len
  have hs := O.sum
  have e1 : w = (List.range n).map fun (i : Nat) => ig w (i : Int) := by
    refine ig_ext (by simp [hl]) fun i hi => ?_
    rw [ig_range _ (by omega)]
  have e2 : ((List.range n).map fun (i : Nat) => ig w (i : Int) - i).sum = 0 := by
    rw [sum_map_sub, ← e1, hs]
    show (DL.iota n).sum - (DL.iota n).sum = 0
    omega
  have e3 := sum_all0 (n := n) (f := fun (i : Nat) => ig w (i : Int) - i) (fun i hi => by
    have := up i
    rw [endAt_nat (by omega)] at this
    omega) e2
  refine ig_ext (by rw [hl, iota_len]) fun i hi => ?_
  have := e3 i (by omega)
  rw [ig_iota (by omega)]; omega
theorem LeC.len {n : Nat} (h2 : 2 ≤ n) : ∀ (m : Nat) (gs w : List Int), gs.length = m → (∀ g ∈ gs, 0 ≤ g ∧ g < n) → Out n w → LeC n w (runE gs (iota n)) → S2 n w ≤ S2 n (runE gs (iota n))
  | 0, gs, w, hm, hs, O, h => by
    have : gs = [] := List.eq_nil_of_length_eq_zero hm
    subst this
    have h : LeC n w (DL.iota n) := h
    rw [LeC.ident O (by omega) h]; exact Nat.le_refl _
  | m + 1, gs, w, hm, hs, O, h => by
    obtain ⟨gs', g, rfl⟩ : ∃ a b, gs = a ++ [b] := by
      have hne : gs ≠ [] := fun z => by rw [z] at hm; simp at hm
      exact ⟨gs.dropLast, gs.getLast hne, (List.dropLast_concat_getLast hne).symm⟩
    obtain ⟨g0, g1⟩ := hs g (by simp)
    obtain ⟨k, rfl⟩ := Int.eq_ofNat_of_zero_le g0
    have hk : k < n := by omega
    have hs' : ∀ x ∈ gs', 0 ≤ x ∧ x < (n : Int) := fun x hx => hs x (by simp [hx])
    have hm' : gs'.length = m := by simp at hm; exact hm
    have V := out_runE h2 gs' _ hs' (out_iota n)
    have er : runE (gs' ++ [(k : Int)]) (iota n) = LW.callE (runE gs' (iota n)) k := by rw [runE_app]; rfl
    rw [er] at h ⊢
    have c := S2_callE V h2 hk
    by_cases hp : passE (runE gs' (iota n)) k = true
    · rw [if_pos hp] at c
      have hnd : ¬ desc n (runE gs' (iota n)) k := by
        unfold passE at hp
        rw [V.len, decide_eq_true_eq] at hp
        unfold desc; omega
      have e : LW.callE (runE gs' (iota n)) k = swapT (runE gs' (iota n)) k := by unfold LW.callE; rw [if_pos hp]
      rw [e] at h
      have := LeC.len h2 m gs' (dnT n w k) hm' hs' (dnT_out O h2 hk) (h.dn O V h2 hk hnd)
      have := S2_dn O h2 hk
      omega
    · have e : LW.callE (runE gs' (iota n)) k = runE gs' (iota n) := by unfold LW.callE; rw [if_neg hp]
      rw [e] at h ⊢
      exact LeC.len h2 m gs' w hm' hs' O h
theorem cT_callT {n : Nat} {r t : List Int} (O : Out n t) (h2 : 2 ≤ n) {k : Nat} (hk : k < n) (b e : Int) : cT n (callT r t k) b e ≤ stH n k (cT n t b) e := by
  have S : StB (cT n t b) := fun e => by
    have := cT_step O (by omega) b e
    unfold boI at this
    split at this <;> omega
  have up := (S.up n k e).1
  unfold callT
  split
  · by_cases hp : passE t k = true
    · have := cT_call O h2 b hk
      unfold LW.callE at this
      rw [if_pos hp] at this
      rw [this]; exact Int.le_refl _
    · have hd : desc n t k := by
        unfold passE at hp
        rw [O.len, decide_eq_true_eq] at hp
        unfold desc; omega
      have h1 := cT_down O h2 hk hd b e
      have h3 := S e
      have h4 := S (e + 1)
      rw [show e + 1 - 1 = e by omega] at h4
      rw [h1]
      split <;> omega
  · exact up
/-- no ring carries more than the endless line -/
theorem LeC.run {n : Nat} {r : List Int} (h2 : 2 ≤ n) : ∀ (gs t u : List Int), (∀ g ∈ gs, 0 ≤ g ∧ g < n) → Out n t → Out n u → LeC n t u → LeC n (runT r gs t) (runE gs u)
  | [], t, u, _, _, _, h => h
  | g :: gs, t, u, hs, O, U, h => by
    obtain ⟨g0, g1⟩ := hs g (List.mem_cons_self ..)
    obtain ⟨k, rfl⟩ := Int.eq_ofNat_of_zero_le g0
    have hk : k < n := by omega
    show LeC n (runT r gs (callT r t ((k : Nat) : Int).toNat)) (runE gs (LW.callE u ((k : Nat) : Int).toNat))
    rw [Int.toNat_natCast]
    refine LeC.run h2 gs _ _ (fun x hx => hs x (List.mem_cons_of_mem _ hx)) (O.call h2 r hk) (U.callE h2 hk) fun b e => ?_
    rw [cT_call U h2 b hk]
    have a := cT_callT (r := r) O h2 hk b e
    have m := stH_mono (n := n) (k := (k : Int)) (a := 0) (H := cT n t b) (J := cT n u b) (fun g => by have := h b g; omega) e
    omega
theorem cT_stB {n : Nat} {t : List Int} (O : Out n t) (h0 : 0 < n) (b : Int) : StB (cT n t b) := fun e => by
  have := cT_step O h0 b e
  unfold boI at this
  split at this <;> omega
theorem ca_ru {n : Nat} (h2 : 2 ≤ n) {gs : List Int} (hs : Sch n gs) (b e : Int) : carrO (invO (runE gs (iota n))) b e = ruH n gs (fun g => max 0 (b - g)) e := by
  have O := out_iota n
  rw [carrO_cT (out_runE h2 _ _ hs.mem O) (by omega), cT_run h2 b _ _ O hs.mem, funext (cT_iota (by omega) b)]
theorem ca_less {n : Nat} (h2 : 2 ≤ n) {r g1 gs : List Int} (s : g1.Sublist gs) (h1 : Sch n g1) (hs : Sch n gs) (b e : Int) : carrO (invO (runT r g1 (iota n))) b e ≤ carrO (invO (runE gs (iota n))) b e := by
  have O := out_iota n
  have a := LeC.run (r := r) h2 g1 _ _ h1.mem O O (fun _ _ => Int.le_refl _) b e
  have c := ruH_sub h2 s (H := cT n (iota n) b) (J := cT n (iota n) b) (a := 0) (cT_stB O (by omega) b) (fun g => by omega) e
  rw [carrO_cT (Out.run h2 _ _ _ h1.mem O) (by omega), carrO_cT (out_runE h2 _ _ hs.mem O) (by omega)]
  rw [cT_run h2 b _ _ O h1.mem] at a
  rw [cT_run h2 b _ _ O hs.mem]
  omega
theorem allT_near {n : Nat} {e : Int} : ∀ {gs : List Int} {t : List Int}, t ∈ allT n e gs → ∀ x ∈ t, e - gs.length ≤ x ∧ x ≤ e + gs.length
  | [], t, h, x, hx => by
    rw [List.mem_singleton.mp h] at hx
    rw [List.mem_singleton.mp hx]; simp
  | c :: gs, t, h, x, hx => by
    obtain ⟨u, hu, h⟩ := List.mem_flatMap.mp h
    obtain ⟨s, hs, rfl⟩ := List.mem_map.mp h
    have hl := allT_len hu
    rw [List.length_cons]
    rcases List.mem_cons.mp hx with rfl | hx
    · have h0 := allT_near hu (ig u 0) (ig_mem (by omega))
      unfold stepsT at hs
      split at hs
      · simp only [List.mem_cons, List.not_mem_nil, or_false] at hs
        omega
      · have := List.mem_singleton.mp hs; omega
    · have := allT_near hu x hx; omega
theorem allT_end {n : Nat} {e : Int} : ∀ {gs : List Int} {t : List Int}, t ∈ allT n e gs → ig t (-1) = e
  | [], t, h => by rw [List.mem_singleton.mp h]; rfl
  | c :: gs, t, h => by
    obtain ⟨u, hu, h⟩ := List.mem_flatMap.mp h
    obtain ⟨s, hs, rfl⟩ := List.mem_map.mp h
    have hl := allT_len hu
    have ih := allT_end hu
    rw [ig_neg1 (by omega)] at ih
    rw [ig_neg1 (by rw [List.length_cons]; omega), List.length_cons, show ((u.length + 1 - 1 : Nat) : Int) = ((u.length - 1 : Nat) : Int) + 1 by omega, ig_consT]
    exact ih
/-- a thread gives no less than the crossings -/
theorem allT_thr {n : Nat} {e : Int} : ∀ {gs : List Int} {t : List Int}, t ∈ allT n e gs → thN n gs t = true
  | [], t, h => rfl
  | c :: gs, t, h => by
    obtain ⟨u, hu, h⟩ := List.mem_flatMap.mp h
    obtain ⟨s, hs, rfl⟩ := List.mem_map.mp h
    have ih := allT_thr hu
    unfold thN at ih
    have ih := List.all_eq_true.mp ih
    refine thN_true fun i hi => ?_
    cases i with
    | zero =>
      have e1 : ig (s :: u) (((0 : Nat) : Int) + 1) = ig u 0 := ig_consT s u 0
      have e0 : ig (s :: u) ((0 : Nat) : Int) = s := rfl
      have e2 : ig (c :: gs) ((0 : Nat) : Int) = c := rfl
      rw [e1, e0, e2]
      unfold stepsT at hs
      unfold stB
      refine decide_eq_true ?_
      split at hs
      · next hc =>
        rw [if_pos hc]
        simp only [List.mem_cons, List.not_mem_nil, or_false] at hs
        omega
      · next hc =>
        rw [if_neg hc]
        simp only [List.mem_cons, List.not_mem_nil, or_false] at hs
        omega
    | succ i =>
      have e1 : ig (s :: u) (((i + 1 : Nat) : Int) + 1) = ig u ((i : Int) + 1) := ig_consT s u (i + 1)
      have e0 : ig (s :: u) ((i + 1 : Nat) : Int) = ig u (i : Int) := ig_consT s u i
      have e2 : ig (c :: gs) ((i + 1 : Nat) : Int) = ig gs (i : Int) := ig_consT c gs i
      rw [e1, e0, e2]
      exact ih i (List.mem_range.mpr (by rw [List.length_cons] at hi; omega))
/-- a thread whose cost is known to be at least the least price -/
structure Thr (n : Nat) (gs t : List Int) (e : Int) : Prop where
  len : t.length = gs.length + 1
  thr : thN n gs t = true
  fin : ig t (-1) = e
  cnt : ∃ p, prP n e gs (ig t 0) = some p ∧ p ≤ cntN t gs.length
theorem Thr.all {n : Nat} {gs t : List Int} {e : Int} (h : t ∈ allT n e gs) : Thr n gs t e := by
  have hl := allT_len h
  refine ⟨hl, allT_thr h, allT_end h, ?_⟩
  obtain ⟨p, h1, h2⟩ := (LsT.all (n := n) (e := e) gs (ig t 0)).1 t h rfl
  unfold prT at h2
  rw [hl, Nat.add_sub_cancel] at h2
  exact ⟨p, h1, h2⟩
theorem Thr.ch {n : Nat} {gs t : List Int} {b e p : Int} (h : ChT n gs b e p t) (hp : prP n e gs b = some p) : Thr n gs t e := by
  refine ⟨h.len, h.thr, ?_, p, by rw [h.beg]; exact hp, by rw [h.cnt]; exact Int.le_refl _⟩
  rw [ig_neg1 (by rw [h.len]; omega), h.len, Nat.add_sub_cancel]
  exact h.fin
theorem Thr.carr {n : Nat} (h2 : 2 ≤ n) {gs t o : List Int} {e : Int} (hs : Sch n gs) (h : Thr n gs t e) (ho : ∀ b e, carrO o b e ≤ carrO (invO (runE gs (iota n))) b e) : carrO o (ig t 0) (ig t (-1)) ≤ cntN t gs.length := by
  obtain ⟨p, hp, hle⟩ := h.cnt
  have a := ho (ig t 0) e
  rw [ca_ru h2 hs] at a
  have c := (ru_pr (n := n) e gs fun g => max 0 (ig t 0 - g)).1 _ _ hp
  rw [h.fin]
  omega
theorem thN_mem {n : Nat} : ∀ {gs t : List Int}, t.length = gs.length + 1 → thN n gs t = true → t ∈ allT n (ig t (-1)) gs
  | [], t, hl, _ => by
    match t, hl with
    | [x], _ => exact List.mem_singleton.mpr rfl
  | c :: gs, t, hl, h => by
    match t, hl with
    | s :: u, hl =>
      have hlu : u.length = gs.length + 1 := by simpa using hl
      unfold thN at h
      have h := List.all_eq_true.mp h
      have h0 := h 0 (List.mem_range.mpr (by rw [List.length_cons]; omega))
      have e1 : ig (s :: u) (((0 : Nat) : Int) + 1) = ig u 0 := ig_consT s u 0
      have e0 : ig (s :: u) ((0 : Nat) : Int) = s := rfl
      have e2 : ig (c :: gs) ((0 : Nat) : Int) = c := rfl
      rw [e1, e0, e2] at h0
      have hu : thN n gs u = true := thN_true fun i hi => by
        have := h (i + 1) (List.mem_range.mpr (by rw [List.length_cons]; omega))
        have e1 : ig (s :: u) (((i + 1 : Nat) : Int) + 1) = ig u ((i : Int) + 1) := ig_consT s u (i + 1)
        have e0 : ig (s :: u) ((i + 1 : Nat) : Int) = ig u (i : Int) := ig_consT s u i
        have e2 : ig (c :: gs) ((i + 1 : Nat) : Int) = ig gs (i : Int) := ig_consT c gs i
        rw [e1, e0, e2] at this
        exact this
      have ih := thN_mem hlu hu
      have el : ig (s :: u) (-1) = ig u (-1) := by
        rw [ig_neg1 (by rw [List.length_cons]; omega), ig_neg1 (by omega)]
        rw [List.length_cons, Nat.add_sub_cancel, hlu]
        exact ig_consT s u gs.length
      rw [el]
      refine List.mem_flatMap.mpr ⟨u, ih, List.mem_map.mpr ⟨s, ?_, rfl⟩⟩
      unfold stB at h0
      have h0 := of_decide_eq_true h0
      unfold stepsT
      by_cases hc : (ig u 0 - c) % (n : Int) = 0
      · rw [if_pos hc] at h0 ⊢
        simp only [List.mem_cons, List.not_mem_nil, or_false]
        omega
      · rw [if_neg hc] at h0 ⊢
        simp only [List.mem_cons, List.not_mem_nil, or_false]
        omega
theorem _root_.LW.ChT.mem {n : Nat} {gs t : List Int} {b e p : Int} (h : ChT n gs b e p t) : t ∈ allT n e gs := by
  have := thN_mem h.len h.thr
  rw [ig_neg1 (by rw [h.len]; omega), h.len, Nat.add_sub_cancel, h.fin] at this
  exact this
def slaw_drawn_thread : DSp := fun ds Q _ => ∃ (n : Nat) (b : D) (gs : List Int), ds = [b, .int n, iL gs] ∧ BagD b ∧ 2 ≤ n ∧ n ≤ 12 ∧ gs.length ≤ 1000 ∧ ∀ (e : Int) (t : List Int) (b' : D), -12 ≤ e → e ≤ 24 → t ∈ allT n e gs → BagD b' → Q true (iL t) [b']
theorem i_drawnt {n : Nat} {b : D} {gs : List Int} {Q : Bool → D → List D → Prop} {E : EdT} (hb : BagD b) (h1 : 2 ≤ n) (h2 : n ≤ 12) (hl : gs.length ≤ 1000) (h : ∀ (e : Int) (t : List Int) (b' : D), -12 ≤ e → e ≤ 24 → t ∈ allT n e gs → BagD b' → Q true (iL t) [b']) : slaw_drawn_thread [b, .int n, iL gs] Q E := ⟨n, b, gs, rfl, hb, h1, h2, hl, h⟩
def slaw_schedule : DSp := fun ds Q _ => ∃ (b : D) (n m : Int), ds = [b, .int n, .int m] ∧ BagD b ∧ 2 ≤ n ∧ n ≤ 1000 ∧ 0 ≤ m ∧ m ≤ 1000 ∧ ∀ (l : List Int) b', (l.length : Int) ≤ m → Sch n l → BagD b' → Q true (.lst (l.map D.int)) [b']
theorem i_sched {b : D} {n m : Int} {Q : Bool → D → List D → Prop} {E : EdT} (hb : BagD b) (h1 : 2 ≤ n) (h2 : n ≤ 1000) (h3 : 0 ≤ m) (h4 : m ≤ 1000) (h : ∀ (l : List Int) b', (l.length : Int) ≤ m → Sch n l → BagD b' → Q true (.lst (l.map D.int)) [b']) : slaw_schedule [b, .int n, .int m] Q E := ⟨b, n, m, rfl, hb, h1, h2, h3, h4, h⟩
def slaw_ranks : DSp := fun ds Q _ => ∃ (b : D) (n : Int), ds = [b, .int n] ∧ BagD b ∧ 2 ≤ n ∧ n ≤ 100 ∧ ∀ (l : List Int) b', (l.length : Int) = n → (∀ x ∈ l, rkOk x) → BagD b' → Q true (.lst (l.map D.int)) [b']
theorem i_ranks {b : D} {n : Int} {Q : Bool → D → List D → Prop} {E : EdT} (hb : BagD b) (h1 : 2 ≤ n) (h2 : n ≤ 100) (h : ∀ (l : List Int) b', (l.length : Int) = n → (∀ x ∈ l, rkOk x) → BagD b' → Q true (.lst (l.map D.int)) [b']) : slaw_ranks [b, .int n] Q E := ⟨b, n, rfl, hb, h1, h2, h⟩
def slaw_some_size : DSp := fun ds Q _ => ∃ (b : D) (m : Int), ds = [b, .int m] ∧ BagD b ∧ 2 ≤ m ∧ m ≤ 100 ∧ ∀ (n : Int) b', 2 ≤ n → n ≤ m → BagD b' → Q false (.int n) [b']
theorem i_some {b : D} {m : Int} {Q : Bool → D → List D → Prop} {E : EdT} (hb : BagD b) (h1 : 2 ≤ m) (h2 : m ≤ 100) (h : ∀ (n : Int) b', 2 ≤ n → n ≤ m → BagD b' → Q false (.int n) [b']) : slaw_some_size [b, .int m] Q E := ⟨b, m, rfl, hb, h1, h2, h⟩
abbrev slaw_bag : DSp := bagD
theorem far_callE {B : Nat} {t : List Int} (h : Far B t) (g : Nat) : Far (B + t.length) (callE t g) := by
  unfold callE
  split
  · unfold swapT
    have hb := shP_bound t.length g
    have h1 := h.ig g
    have h2 := h.ig (nxP t.length g)
    exact ((h.mono (Nat.le_add_right _ _)).set (by omega)).set (by omega)
  · exact h.mono (Nat.le_add_right _ _)
theorem far_runE {n : Nat} : ∀ (gs : List Int) {B : Nat} {t : List Int}, t.length = n → Far B t → Far (B + n * gs.length) (runE gs t)
  | [], B, t, _, h => by simpa [runE] using h
  | g :: gs, B, t, hl, h => by
    have ih := far_runE gs (t := callE t g.toNat) (by rw [callE_len, hl]) (far_callE h g.toNat)
    rw [hl] at ih
    rw [runE, List.length_cons, Nat.mul_add, Nat.mul_one]
    exact ih.mono (by omega)
/-- a thing of any kind that may be printed; ints below 2 ^ j -/
structure AskJ (j : Nat) (d : D) : Prop where
  ty : (tyN d).isSome = true
  nz : niceZ j d = true
  deep : (toPy d).depth ≤ 15
  wt : wtZ 256 d ≤ 1005
  tx : ∀ x, d = .str x → x.length ≤ 100
mutual
theorem niceZ_mono {j k : Nat} (h : j ≤ k) : ∀ d : D, niceZ j d = true → niceZ k d = true
  | .non, _ => rfl
  | .bl _, _ => rfl
  | .int i, e => by rw [niceZ, decide_eq_true_eq] at *; exact Nat.lt_of_lt_of_le e (Nat.pow_le_pow_right (by decide) h)
  | .str _, e => by rw [niceZ] at *; exact e
  | .lst ds, e => by rw [niceZ] at *; exact niceZs_mono h ds e
  | .tup ds, e => by rw [niceZ] at *; exact niceZs_mono h ds e
  | .dic ds, e => by rw [niceZ] at *; exact niceZk_mono h ds e
  | .dkl ds, e => by rw [niceZ] at *; exact niceZk_mono h ds e
  | .scr _, e => by simp [niceZ] at e
  | .dit _, e => by simp [niceZ] at e
  | .dtl _, e => by simp [niceZ] at e
  | .pnK _ _, e => by simp [niceZ] at e
  | .pnT _ _, e => by simp [niceZ] at e
  | .obj _ _ _, e => by simp [niceZ] at e
  | .cls _, e => by simp [niceZ] at e
  | .xcl _ _, e => by simp [niceZ] at e
theorem niceZs_mono {j k : Nat} (h : j ≤ k) : ∀ ds : List D, niceZs j ds = true → niceZs k ds = true
  | [], _ => rfl
  | d :: ds, e => by
    rw [niceZs, Bool.and_eq_true] at *
    exact ⟨niceZ_mono h d e.1, niceZs_mono h ds e.2⟩
theorem niceZk_mono {j k : Nat} (h : j ≤ k) : ∀ ds : List (L2.Key × D), niceZk j ds = true → niceZk k ds = true
  | [], _ => rfl
  | (.inl i, d) :: ds, e => by
    rw [niceZk, Bool.and_eq_true, Bool.and_eq_true, decide_eq_true_eq] at *
    exact ⟨⟨Nat.lt_of_lt_of_le e.1.1 (Nat.pow_le_pow_right (by decide) h), niceZ_mono h d e.1.2⟩, niceZk_mono h ds e.2⟩
  | (.inr x, d) :: ds, e => by
    rw [niceZk, Bool.and_eq_true, Bool.and_eq_true] at *
    exact ⟨⟨e.1.1, niceZ_mono h d e.1.2⟩, niceZk_mono h ds e.2⟩
end
theorem AskJ.mono {j k : Nat} {d : D} (h : AskJ j d) (e : j ≤ k) : AskJ k d := ⟨h.ty, niceZ_mono e d h.nz, h.deep, h.wt, h.tx⟩
theorem AskJ.nice {j : Nat} {d : D} (h : AskJ j d) (hj : j ≤ 256) : NiceZ d := ⟨niceZ_mono hj d h.nz, by have := h.deep; omega, by have := h.wt; omega⟩
theorem AskJ.int {j : Nat} {i : Int} (h : i.natAbs < 2 ^ j) : AskJ j (.int i) := ⟨rfl, by rw [niceZ]; exact decide_eq_true h, by simp [toPy, PyData.depth], by simp [wtZ], fun x e => by cases e⟩
theorem AskJ.str {j : Nat} {x : Str} (h : PyData.strOk x = true) (hl : x.length ≤ 100) : AskJ j (.str x) := ⟨rfl, by rw [niceZ]; exact h, by simp [toPy, PyData.depth], by rw [wtZ]; omega, fun y e => by cases e; exact hl⟩
theorem niceZ_ty {j : Nat} {d : D} (h : niceZ j d = true) : (tyN d).isSome = true := by
  cases d <;> first | rfl | simp [niceZ] at h
theorem AskJ.of {j : Nat} {d : D} (h : niceZ j d = true) (h1 : (toPy d).depth ≤ 15) (h2 : wtZ 256 d ≤ 1005) : AskJ j d := ⟨niceZ_ty h, h, h1, h2, fun x e => by rw [e, wtZ] at h2; omega⟩
theorem niceZs_mem {j : Nat} : ∀ {ds : List D}, niceZs j ds = true → ∀ x ∈ ds, niceZ j x = true ∧ (toPy x).depth ≤ PyData.depthAll (toPys ds) ∧ wtZ 256 x ≤ wtZs 256 ds
  | [], _, x, h => by cases h
  | d :: ds, e, x, h => by
    rw [niceZs, Bool.and_eq_true] at e
    rw [toPys, PyData.depthAll, wtZs]
    rcases List.mem_cons.mp h with rfl | h
    · exact ⟨e.1, by omega, by omega⟩
    · obtain ⟨a, b, c⟩ := niceZs_mem e.2 x h
      exact ⟨a, by omega, by omega⟩
theorem AskJ.lmem {j : Nat} {ds : List D} (h : AskJ j (.lst ds)) : ∀ x ∈ ds, AskJ j x := fun x hx => by
  have e := h.nz; have h1 := h.deep; have h2 := h.wt
  rw [niceZ] at e
  rw [toPy, PyData.depth] at h1
  rw [wtZ] at h2
  obtain ⟨a, b, c⟩ := niceZs_mem e x hx
  exact .of a (by omega) (by omega)
theorem AskJ.tmem {j : Nat} {ds : List D} (h : AskJ j (.tup ds)) : ∀ x ∈ ds, AskJ j x := fun x hx => by
  have e := h.nz; have h1 := h.deep; have h2 := h.wt
  rw [niceZ] at e
  rw [toPy, PyData.depth] at h1
  rw [wtZ] at h2
  obtain ⟨a, b, c⟩ := niceZs_mem e x hx
  exact .of a (by omega) (by omega)
theorem AskJ.llen {j : Nat} {ds : List D} (h : AskJ j (.lst ds)) : ds.length ≤ 200 := by
  have h2 := h.wt
  rw [wtZ] at h2
  have : ∀ es : List D, 6 * es.length ≤ wtZs 256 es := fun es => by
    induction es with
    | nil => exact Nat.le_refl _
    | cons e es ih =>
      have : 4 ≤ wtZ 256 e := by cases e <;> simp only [wtZ] <;> omega
      rw [wtZs, List.length_cons]; omega
  have := this ds
  omega
theorem AskJ.tlen {j : Nat} {ds : List D} (h : AskJ j (.tup ds)) : ds.length ≤ 200 := by
  have h2 := h.wt
  rw [wtZ] at h2
  have : ∀ es : List D, 6 * es.length ≤ wtZs 256 es := fun es => by
    induction es with
    | nil => exact Nat.le_refl _
    | cons e es ih =>
      have : 4 ≤ wtZ 256 e := by cases e <;> simp only [wtZ] <;> omega
      rw [wtZs, List.length_cons]; omega
  have := this ds
  omega
theorem i_ixM {ds : List D} {k : Int} {Q : Res → Prop} (h0 : 0 ≤ k) (h1 : k < ds.length) (h : ∀ x, x ∈ ds → Q (.val x)) : ixD (.lst ds) (.int k) Q := by
  have hk : k.toNat < ds.length := by omega
  refine ⟨ds[k.toNat], ?_, h _ (List.getElem_mem _)⟩
  unfold atI
  rw [ixN_pos h0 h1, Option.bind_some, List.getElem?_eq_getElem hk]
/-- a thing, or a list or a tuple of things -/
def ThZ (j : Nat) (d : D) : Prop := AskJ j d ∨ ∃ ds : List D, (d = .lst ds ∨ d = .tup ds) ∧ ds.length ≤ 50 + j ∧ ∀ x ∈ ds, AskJ j x
theorem ThZ.mono {j k : Nat} {d : D} (h : ThZ j d) (e : j ≤ k) : ThZ k d := by
  rcases h with h | ⟨ds, h1, h2, h3⟩
  · exact .inl (h.mono e)
  · exact .inr ⟨ds, h1, by omega, fun x hx => (h3 x hx).mono e⟩
theorem ThZ.lst {j : Nat} {ds : List D} (hj : 200 ≤ j) (h : ThZ j (.lst ds)) : ds.length ≤ 50 + j ∧ ∀ x ∈ ds, AskJ j x := by
  rcases h with h | ⟨es, h1 | h1, h2, h3⟩
  · exact ⟨by have := h.llen; omega, h.lmem⟩
  · cases h1; exact ⟨h2, h3⟩
  · cases h1
theorem ThZ.tup {j : Nat} {ds : List D} (hj : 200 ≤ j) (h : ThZ j (.tup ds)) : ds.length ≤ 50 + j ∧ ∀ x ∈ ds, AskJ j x := by
  rcases h with h | ⟨es, h1 | h1, h2, h3⟩
  · exact ⟨by have := h.tlen; omega, h.tmem⟩
  · cases h1
  · cases h1; exact ⟨h2, h3⟩
theorem ThZ.kind {j : Nat} {d : D} (h : ThZ j d) : (tyN d).isSome = true ∧ ∀ ds, d ≠ .scr ds := by
  rcases h with h | ⟨es, h1 | h1, _, _⟩
  · exact ⟨h.ty, fun ds e => by have := h.nz; rw [e] at this; simp [niceZ] at this⟩
  · subst h1; exact ⟨rfl, fun ds e => by cases e⟩
  · subst h1; exact ⟨rfl, fun ds e => by cases e⟩
theorem niceZs_some {j : Nat} : ∀ {ds : List D}, (∀ x ∈ ds, AskJ j x) → niceZs j ds = true ∧ PyData.depthAll (toPys ds) ≤ 15 ∧ wtZs 256 ds ≤ 1007 * ds.length
  | [], _ => ⟨rfl, by simp [toPys, PyData.depthAll], Nat.le_refl _⟩
  | d :: ds, h => by
    obtain ⟨a, b, c⟩ := niceZs_some fun x hx => h x (List.mem_cons_of_mem _ hx)
    have hd := h d (List.mem_cons_self ..)
    have h1 := hd.deep; have h2 := hd.wt
    refine ⟨by rw [niceZs, a, hd.nz]; rfl, by rw [toPys, PyData.depthAll]; omega, by rw [wtZs, List.length_cons]; omega⟩
theorem ThZ.nice {j : Nat} {d : D} (h : ThZ j d) (hj : j ≤ 256) : NiceZ d := by
  rcases h with h | ⟨es, h1 | h1, h2, h3⟩
  · exact h.nice hj
  · subst h1
    obtain ⟨a, b, c⟩ := niceZs_some h3
    exact ⟨by rw [niceZ]; exact niceZs_mono hj es a, by rw [toPy, PyData.depth]; omega, by rw [wtZ]; omega⟩
  · subst h1
    obtain ⟨a, b, c⟩ := niceZs_some h3
    exact ⟨by rw [niceZ]; exact niceZs_mono hj es a, by rw [toPy, PyData.depth]; omega, by rw [wtZ]; omega⟩
abbrev slaw : DSp := slawD
theorem CoL.ne {n : Nat} {e : Int} {gs : List Int} {L : List (Int × Int)} (hL : CoL n e gs L) : 0 < L.length := by
  obtain ⟨g, p, h⟩ := prP_some (n := n) e gs
  exact List.length_pos_of_mem ((hL.mem g p).mpr h)
theorem CoL.le {n : Nat} {e : Int} {gs : List Int} {L : List (Int × Int)} (hL : CoL n e gs L) : L.length ≤ 2 * gs.length + 1 := by
  have nd : (L.map (·.1)).Nodup := by
    rw [List.nodup_iff_pairwise_ne, List.pairwise_map]
    exact hL.asc.imp fun h => by omega
  have := nodup_le (2 * gs.length + 1) (L.map (·.1)) (e - gs.length) nd fun x hx => by
    obtain ⟨⟨g, p⟩, hp, rfl⟩ := List.mem_map.mp hx
    have := prP_near e gs g p ((hL.mem g p).mp hp)
    dsimp only; omega
  rwa [List.length_map] at this
theorem int_split {x : D} {xs : List D} {l : List Int} (h : x :: xs = l.map D.int) : ∃ o l', l = o :: l' ∧ x = .int o ∧ xs = l'.map D.int := by
  cases l with
  | nil => cases h
  | cons o l' =>
    rw [List.map_cons] at h
    injection h with h1 h2
    exact ⟨o, l', rfl, h1, h2⟩
set_option maxHeartbeats 4000000 in
theorem v_law_carried (ds : List D) (Qd : Bool → D → List D → Prop) (Ed : EdT) (hl : ds.length = 3) (h : slaw_carried ds Qd Ed) : m_law_carried (endsD [.S, .S, .S] Qd) (startD ["_law_outcome", "_law_begin", "_law_end", "_law_person", "_law_size", "_law_total", "_law_ahead"] [.S, .S, .S] ds) := by
  obtain ⟨o, b, e, rfl, h1, h2, hb, he, ho, hq⟩ := h
  unfold m_law_carried
  lcg_src
  lcg_sub
  rw [carrO_sum] at hq
  refine loop_rng o.length (fun i Γ => ∃ (k : Nat) (c3 c6 : Sl), i = (k : Int) ∧ k ≤ o.length ∧ Γ = [.sh (.tup (o.map D.int)), .sh (.int b), .sh (.int e), c3, .sh (.int o.length), .sh (.int ((List.range k).map fun (i : Nat) => carr1 o.length b e i (ig o (i : Int))).sum), c6] ∧ fr c3 = true ∧ fr c6 = true) ?_ ?_ ?_ _ _ _ (by omega) ⟨0, .no, .no, rfl, Nat.zero_le _, rfl, rfl, rfl⟩
  · intro i Γ _; exact trivial
  · rintro Γ ⟨k, c3, c6, hi, hk, rfl, f3, f6⟩
    obtain rfl : k = o.length := by omega
    lcg_sub
    exact hq
  · rintro i Γ N hlt ⟨k, c3, c6, rfl, hk, rfl, f3, f6⟩ hN
    have hx := ho (ig o (k : Int)) (ig_mem (by omega))
    generalize hS : ((List.range k).map fun (i : Nat) => carr1 o.length b e i (ig o (i : Int))).sum = S
    lcg_sub
    refine hN _ ⟨k + 1, .sh (.int k), .sh (.int ((e - ig o (k : Int)) / (o.length : Int))), by omega, by omega, ?_, rfl, rfl⟩
    rw [List.range_succ, List.map_append, List.sum_append, hS]
    rw [List.map_singleton, List.sum_singleton]; rfl
set_option maxHeartbeats 4000000 in
theorem v_stepped_back (ds : List D) (Qd : Bool → D → List D → Prop) (Ed : EdT) (hl : ds.length = 3) (h : sstepped_back ds Qd Ed) : m_stepped_back (endsD [.S, .S, .S] Qd) (startD ["size", "prices", "gap", "earlier", "place", "price"] [.S, .S, .S] ds) := by
  obtain ⟨n, k, L, P, rfl, h2, D1, hl, hq⟩ := h
  unfold m_stepped_back
  lcg_src
  lcg_sub
  rw [items_prK]
  refine loop_inv (fun xs Γ => ∃ (done rest : List (Int × Int)) (m : List (Int × Int)) (c4 c5 : Sl), L = done ++ rest ∧ xs = rest.map (fun p => D.tup [.int p.1, .int p.2]) ∧ Γ = [.sh (.int n), .sh (.dkl (prK L)), .sh (.int k), .ow (.dic (prK m)), c4, c5] ∧ (fr c4 = true ∧ fr c5 = true) ∧ Dk m (stP n k (lookI done)) ∧ m.length ≤ 2 * done.length) ?_ ?_ ?_ _ _ ⟨[], L, [], .no, .no, rfl, rfl, rfl, ⟨rfl, rfl⟩, ⟨List.nodup_nil, fun g => by unfold stP; simp [lookI, omin]⟩, Nat.le_refl _⟩
  · intro xs Γ _; exact trivial
  · rintro Γ ⟨done, rest, m, c4, c5, he, hx, rfl, -, Dm, hml⟩
    have e : rest = [] := by cases rest with | nil => rfl | cons _ _ => cases hx
    subst e
    rw [List.append_nil] at he
    subst he
    lcg_sub
    exact hq m ⟨Dm.nd, fun g => by rw [Dm.at_, stP_congr D1.at_]⟩
  · rintro x xs Γ N ⟨done, rest, m, c4, c5, he, hx, rfl, ⟨f4, f5⟩, Dm, hml⟩ hN
    cases rest with
    | nil => cases hx
    | cons p rest =>
      rw [List.map_cons] at hx
      injection hx with hx1 hx2
      subst hx1 hx2
      obtain ⟨x, c⟩ := p
      have hnd := D1.nd
      rw [he, List.map_append, List.map_cons] at hnd
      have hxd : ¬ x ∈ done.map (·.1) := fun z => (List.nodup_append.mp hnd).2.2 x z x (List.mem_cons_self ..) rfl
      have hno := lookI_none.mpr hxd
      have hdone : ∀ g, lookI (done ++ [(x, c)]) g = if g = x then some c else lookI done g := fun g => by rw [← putI_new hxd, lookI_put]
      have hst : ∀ g, stP n k (lookI (done ++ [(x, c)])) g = _ := fun g => (stP_congr hdone g).trans (stP_snoc h2 hno g)
      have hlen : done.length + (rest.length + 1) = L.length := by rw [he, List.length_append, List.length_cons]
      have hll : (prK m).length < 90000 := by rw [prK_len]; omega
      have hd2 : (done ++ [(x, c)]).length = done.length + 1 := by rw [List.length_append, List.length_singleton]
      dsimp only
      lcg_sub
      refine e_nif (fun hc => ?_) (fun hc => ?_)
      · lcg_sub
        refine i_get2 (by rfl) (by rfl) (lookD_prK m x).2 (by rfl) ?_
        rw [getD_int, Dm.at_]
        lcg_sub
        refine s_dput (by rfl) (by rfl) (by rfl) (putD_prK (by rw [prK_len] at hll; omega)) (by rfl) ?_
        refine hN _ ⟨done ++ [(x, c)], rest, _, .sh (.int x), .sh (.int c), by rw [he, List.append_assoc]; rfl, rfl, rfl, ⟨rfl, rfl⟩, Dm.put (k := x) fun g => ?_, Nat.le_trans putI_len (by omega)⟩
        rw [hst, if_neg hc]
        by_cases e : g = x
        · rw [if_pos e, if_pos e, e, omin_getD]
        · rw [if_neg e, if_neg e]
      · lcg_sub
        refine i_get2 (by rfl) (by rfl) (lookD_prK m (x - 1)).2 (by rfl) ?_
        rw [getD_int, Dm.at_]
        lcg_sub
        refine s_dput (by rfl) (by rfl) (by rfl) (putD_prK (by rw [prK_len] at hll; omega)) (by rfl) ?_
        have hl1 := putI_len (l := m) (k := x - 1) (v := min c ((stP n k (lookI done) (x - 1)).getD c))
        have D1' : Dk (putI m (x - 1) (min c ((stP n k (lookI done) (x - 1)).getD c))) (fun g => if g = x - 1 then some (min c ((stP n k (lookI done) (x - 1)).getD c)) else stP n k (lookI done) g) := Dm.put fun g => rfl
        generalize putI m (x - 1) (min c ((stP n k (lookI done) (x - 1)).getD c)) = m1 at hl1 D1'
        have hx1 : ¬ x + 1 = x - 1 := by omega
        have eat : lookI m1 (x + 1) = stP n k (lookI done) (x + 1) := by rw [D1'.at_, if_neg hx1]
        rw [prK_len] at hll
        lcg_sub
        refine i_get2 (by rfl) (by rfl) (lookD_prK m1 (x + 1)).2 (by rfl) ?_
        rw [getD_int, eat]
        lcg_sub
        refine s_dput (by rfl) (by rfl) (by rfl) (putD_prK (by omega)) (by rfl) ?_
        refine hN _ ⟨done ++ [(x, c)], rest, _, .sh (.int x), .sh (.int c), by rw [he, List.append_assoc]; rfl, rfl, rfl, ⟨rfl, rfl⟩, D1'.put (k := x + 1) fun g => ?_, Nat.le_trans putI_len (by omega)⟩
        rw [hst, if_pos hc]
        by_cases e1 : g = x - 1
        · have e2 : ¬ g = x + 1 := by omega
          rw [if_pos e1, if_neg e2, if_pos e1, e1, omin_getD]
        · rw [if_neg e1]
          by_cases e2 : g = x + 1
          · rw [if_pos e2, if_pos e2, e2, omin_getD]
          · rw [if_neg e2, if_neg e2, if_neg e1]
set_option maxHeartbeats 4000000 in
theorem v_layers (ds : List D) (Qd : Bool → D → List D → Prop) (Ed : EdT) (hl : ds.length = 3) (h : slayers ds Qd Ed) : m_layers sstepped_back (endsD [.S, .S, .S] Qd) (startD ["size", "schedule", "end", "found", "gap"] [.S, .S, .S] ds) := by
  obtain ⟨n, gs, e, rfl, h2, hl, hq⟩ := h
  unfold m_layers
  lcg_src
  lcg_sub
  refine loop_inv (fun xs Γ => ∃ (a b : List Int) (Ls : List (List (Int × Int))) (c4 : Sl), gs = a ++ b ∧ xs = a.reverse.map D.int ∧ Γ = [.sh (.int n), .sh (iL gs), .sh (.int e), .ow (.lst (Ls.map dkI)), c4] ∧ fr c4 = true ∧ Ls.length = b.length + 1 ∧ ∀ i : Nat, i ≤ b.length → Dk (Ls.getD i []) (prP n e (b.drop (b.length - i)))) ?_ ?_ ?_ _ _ ⟨gs, [], [[(e, 0)]], .no, by simp, by rw [List.map_reverse], rfl, rfl, rfl, fun i hi => ?_⟩
  · intro xs Γ _; exact trivial
  · rintro Γ ⟨a, b, Ls, c4, he, hx, rfl, f4, hL, hD⟩
    have ha : a = [] := by
      have := congrArg List.length hx
      rw [List.length_map, List.length_reverse] at this
      exact List.eq_nil_of_length_eq_zero this.symm
    subst ha
    rw [List.nil_append] at he
    subst he
    lcg_sub
    rw [← List.map_reverse]
    refine hq Ls.reverse ⟨by rw [List.length_reverse]; exact hL, fun i hi => ?_⟩
    have h := hD (gs.length - i) (by omega)
    rw [show gs.length - (gs.length - i) = i by omega] at h
    have e2 : Ls.reverse.getD i [] = Ls.getD (gs.length - i) [] := by
      rw [List.getD_eq_getElem?_getD, List.getD_eq_getElem?_getD, List.getElem?_reverse (by omega), show Ls.length - 1 - i = gs.length - i by omega]
    rw [e2]
    exact h
  · rintro x xs Γ N ⟨a, b, Ls, c4, he, hx, rfl, f4, hL, hD⟩ hN
    obtain ⟨a', g, rfl⟩ : ∃ a' g, a = a' ++ [g] := by
      have hne : a ≠ [] := fun z => by rw [z] at hx; cases hx
      exact ⟨a.dropLast, a.getLast hne, (List.dropLast_concat_getLast hne).symm⟩
    rw [List.reverse_append, List.reverse_singleton, List.singleton_append, List.map_cons] at hx
    injection hx with hx1 hx2
    subst hx1 hx2
    have hDb := hD b.length (Nat.le_refl _)
    rw [Nat.sub_self, List.drop_zero] at hDb
    have hpl := hDb.prLen
    have hbl : b.length ≤ gs.length := by rw [he]; simp; omega
    have hll : (Ls.map dkI).length < 100000 := by rw [List.length_map]; omega
    have hat := at_lastD dkI Ls [] hL
    lcg_sub
    refine i_ix hat ?_
    lcg_sub
    refine i_stepped h2 hDb (by omega) fun m hm => ?_
    lcg_sub
    refine hN _ ⟨a', g :: b, Ls ++ [m], .sh (.int g), by rw [he]; simp, rfl, by rw [List.map_append]; rfl, rfl, by rw [List.length_append, hL]; rfl, fun i hi => ?_⟩
    rw [List.length_cons] at hi
    by_cases e : i = b.length + 1
    · subst e
      rw [List.length_cons, Nat.sub_self, List.drop_zero, List.getD_eq_getElem?_getD, List.getElem?_append_right (by omega), hL, Nat.sub_self]
      exact hm
    · have h := hD i (by omega)
      rw [List.getD_eq_getElem?_getD, List.getElem?_append_left (by omega), ← List.getD_eq_getElem?_getD, List.length_cons, show b.length + 1 - i = (b.length - i) + 1 by omega, List.drop_succ_cons]
      exact h
  · obtain rfl : i = 0 := by simpa using hi
    exact ⟨by simp, fun g => by
      show lookI [(e, 0)] g = if g = e then some 0 else none
      unfold lookI
      rw [List.find?_cons]
      by_cases h : g = e
      · rw [decide_eq_true h.symm, if_pos h]; rfl
      · rw [decide_eq_false fun z => h z.symm, if_neg h]; rfl⟩
set_option maxHeartbeats 4000000 in
theorem v_costs (ds : List D) (Qd : Bool → D → List D → Prop) (Ed : EdT) (hl : ds.length = 3) (h : scosts ds Qd Ed) : m_costs slayers (endsD [.S, .S, .S] Qd) (startD ["size", "schedule", "end", "begin", "price"] [.S, .S, .S] ds) := by
  obtain ⟨n, gs, e, rfl, h2, hl, hq⟩ := h
  unfold m_costs
  lcg_src
  lcg_sub
  refine i_layers h2 hl fun Ls hL => ?_
  have hat := at_getD dkI Ls (k := 0) [] (by have := hL.1; omega)
  have D0 := hL.2 0 (Nat.zero_le _)
  rw [List.drop_zero] at D0
  have hlen := D0.prLen
  generalize Ls.getD 0 [] = L at hat D0 hlen
  lcg_sub
  refine i_ix hat ?_
  lcg_sub
  rw [items_prK]
  refine comp_fn (fun d => some d) (by exact trivial) rfl _ _ (fun x hx N hN => ?_) ?_ ?_
  · obtain ⟨p, hp, rfl⟩ := List.mem_map.mp hx
    lcg_sub
    exact hN
  · rw [List.length_map]; simp only [List.length_nil]; omega
  rw [List.nil_append, List.filterMap_some]
  lcg_sub
  refine ⟨L, rfl, fun ms hp hs => ?_⟩
  lcg_sub
  refine hq ms ⟨?_, fun g p => ?_⟩
  · have nd : (ms.map (·.1)).Nodup := (hp.map _).nodup_iff.mpr D0.nd
    rw [List.nodup_iff_pairwise_ne, List.pairwise_map] at nd
    exact (hs.and nd).imp fun ⟨h1, h2⟩ => by omega
  · rw [hp.mem_iff]; exact D0.mem
set_option maxHeartbeats 4000000 in
theorem v_carried (ds : List D) (Qd : Bool → D → List D → Prop) (Ed : EdT) (hl : ds.length = 3) (h : scarried ds Qd Ed) : m_carried (endsD [.S, .S, .S] Qd) (startD ["outcome", "begin", "end", "size", "total", "person", "place"] [.S, .S, .S] ds) := by
  obtain ⟨o, b, e, rfl, h1, h2, hb, he, ho, hq⟩ := h
  unfold m_carried
  lcg_src
  lcg_sub
  refine loop_enum (fun i xs Γ => ∃ (tot : Int) (o' : List Int) (c5 c6 : Sl), xs = o'.map D.int ∧ Γ = [.sh (.tup (o.map D.int)), .sh (.int b), .sh (.int e), .sh (.int o.length), .sh (.int tot), c5, c6] ∧ fr c5 = true ∧ fr c6 = true ∧ tot + carrF o.length b e i o' = carrO o b e ∧ (∀ x ∈ o', x.natAbs < 2 ^ 160)) ?_ ?_ ?_ _ _ _ ⟨0, o, .no, .no, rfl, rfl, rfl, rfl, by rw [Int.zero_add]; rfl, ho⟩
  · intro i xs Γ _; exact trivial
  · rintro i Γ ⟨tot, o', c5, c6, hx, rfl, f5, f6, ht, ho'⟩
    have e : o' = [] := by cases o' with | nil => rfl | cons _ _ => cases hx
    subst e
    have ht : tot = carrO o b e := by rw [← ht]; show tot = tot + 0; omega
    lcg_sub
    rw [ht]
    exact hq
  · rintro i x xs Γ N ⟨tot, o', c5, c6, hx, rfl, f5, f6, ht, ho'⟩ hN
    cases o' with
    | nil => cases hx
    | cons y o' =>
      injection hx with hx1 hx2
      subst hx1 hx2
      rw [carrF] at ht
      have hy := ho' y (List.mem_cons_self ..)
      lcg_sub
      exact hN _ ⟨_, o', _, _, rfl, rfl, rfl, rfl, by rw [← ht, show ((i + 1 : Nat) : Int) = (i : Int) + 1 by omega]; unfold carr1; omega, fun x hx => ho' x (List.mem_cons_of_mem _ hx)⟩
set_option maxHeartbeats 8000000 in
theorem v_followed (ds : List D) (Qd : Bool → D → List D → Prop) (Ed : EdT) (hl : ds.length = 4) (h : sfollowed ds Qd Ed) : m_followed (endsD [.S, .S, .S, .S] Qd) (startD ["size", "gap", "here", "later", "choices"] [.S, .S, .S, .S] ds) := by
  obtain ⟨n, k, g, L, P, p, rfl, h2, hL, hp, hq⟩ := h
  have fin : ∀ (X : List D) (c : (Res → Prop)), rowsF n k P g ≠ [] → X = (rowsF n k P g).map (fun r => D.tup (r.map D.int)) → (∀ t x, StepP n k P g p x → c (.val (.tup [.int p, .int t, .int x]))) → minTD [.lst X] c := fun X c hne e h => ⟨_, e, hne, fun r hr => by
    obtain ⟨_, _, _, rfl, _⟩ := rowsF_mem hr
    exact Nat.succ_pos _, fun r hr hm => by
    obtain ⟨t, x, rfl, hs⟩ := rowsF_min hp hr hm
    exact h t x hs⟩
  have hne : rowsF n k P g ≠ [] := by
    obtain ⟨y, hy⟩ := stP_some hp
    obtain ⟨t2, h2⟩ := rowsF_has hy
    exact List.ne_nil_of_mem h2
  have l0 := (lookD_prK L g).1
  have l1 := (lookD_prK L (g + 1)).1
  have l2 := (lookD_prK L (g - 1)).1
  rw [hL] at l0 l1 l2
  obtain ⟨o0, ho0⟩ : ∃ o, P g = o := ⟨_, rfl⟩
  obtain ⟨o1, ho1⟩ : ∃ o, P (g + 1) = o := ⟨_, rfl⟩
  obtain ⟨o2, ho2⟩ : ∃ o, P (g - 1) = o := ⟨_, rfl⟩
  rw [ho0] at l0
  rw [ho1] at l1
  rw [ho2] at l2
  unfold m_followed
  lcg_src
  lcg_sub
  refine e_nif (fun hc0 => ?_) (fun hc0 => ?_)
  · lcg_sub
    refine i_din l0 ?_
    cases o0 with
    | none =>
      dsimp only [Option.map_none, Option.map_some, Option.isSome] at *
      lcg_sub
      refine e_dif (fun hc1 => ?_) (fun hc1 => ?_)
      · lcg_sub
        refine i_din l1 ?_
        cases o1 with
        | none =>
          dsimp only [Option.map_none, Option.map_some, Option.isSome] at *
          lcg_sub
          refine e_dif (fun hc2 => ?_) (fun hc2 => ?_)
          · lcg_sub
            refine i_din l2 ?_
            cases o2 with
            | none =>
              dsimp only [Option.map_none, Option.map_some, Option.isSome] at *
              lcg_sub
              lcg_sub
              refine fin _ _ hne (by simp [rowsF, hc0, hc1, hc2, ho0, ho1, ho2]) fun t x hs => ?_
              lcg_sub
              exact hq x hs
            | some v2 =>
              dsimp only [Option.map_none, Option.map_some, Option.isSome] at *
              lcg_sub
              refine i_dget l2 ?_
              lcg_sub
              lcg_sub
              refine fin _ _ hne (by simp [rowsF, hc0, hc1, hc2, ho0, ho1, ho2]) fun t x hs => ?_
              lcg_sub
              exact hq x hs
          · lcg_sub
            lcg_sub
            refine fin _ _ hne (by simp [rowsF, hc0, hc1, hc2, ho0, ho1, ho2]) fun t x hs => ?_
            lcg_sub
            exact hq x hs
        | some v1 =>
          dsimp only [Option.map_none, Option.map_some, Option.isSome] at *
          lcg_sub
          refine i_dget l1 ?_
          lcg_sub
          refine e_dif (fun hc2 => ?_) (fun hc2 => ?_)
          · lcg_sub
            refine i_din l2 ?_
            cases o2 with
            | none =>
              dsimp only [Option.map_none, Option.map_some, Option.isSome] at *
              lcg_sub
              lcg_sub
              refine fin _ _ hne (by simp [rowsF, hc0, hc1, hc2, ho0, ho1, ho2]) fun t x hs => ?_
              lcg_sub
              exact hq x hs
            | some v2 =>
              dsimp only [Option.map_none, Option.map_some, Option.isSome] at *
              lcg_sub
              refine i_dget l2 ?_
              lcg_sub
              lcg_sub
              refine fin _ _ hne (by simp [rowsF, hc0, hc1, hc2, ho0, ho1, ho2]) fun t x hs => ?_
              lcg_sub
              exact hq x hs
          · lcg_sub
            lcg_sub
            refine fin _ _ hne (by simp [rowsF, hc0, hc1, hc2, ho0, ho1, ho2]) fun t x hs => ?_
            lcg_sub
            exact hq x hs
      · lcg_sub
        refine e_dif (fun hc2 => ?_) (fun hc2 => ?_)
        · lcg_sub
          refine i_din l2 ?_
          cases o2 with
          | none =>
            dsimp only [Option.map_none, Option.map_some, Option.isSome] at *
            lcg_sub
            lcg_sub
            refine fin _ _ hne (by simp [rowsF, hc0, hc1, hc2, ho0, ho1, ho2]) fun t x hs => ?_
            lcg_sub
            exact hq x hs
          | some v2 =>
            dsimp only [Option.map_none, Option.map_some, Option.isSome] at *
            lcg_sub
            refine i_dget l2 ?_
            lcg_sub
            lcg_sub
            refine fin _ _ hne (by simp [rowsF, hc0, hc1, hc2, ho0, ho1, ho2]) fun t x hs => ?_
            lcg_sub
            exact hq x hs
        · lcg_sub
          lcg_sub
          refine fin _ _ hne (by simp [rowsF, hc0, hc1, hc2, ho0, ho1, ho2]) fun t x hs => ?_
          lcg_sub
          exact hq x hs
    | some v0 =>
      dsimp only [Option.map_none, Option.map_some, Option.isSome] at *
      lcg_sub
      refine i_dget l0 ?_
      lcg_sub
      refine e_dif (fun hc1 => ?_) (fun hc1 => ?_)
      · lcg_sub
        refine i_din l1 ?_
        cases o1 with
        | none =>
          dsimp only [Option.map_none, Option.map_some, Option.isSome] at *
          lcg_sub
          refine e_dif (fun hc2 => ?_) (fun hc2 => ?_)
          · lcg_sub
            refine i_din l2 ?_
            cases o2 with
            | none =>
              dsimp only [Option.map_none, Option.map_some, Option.isSome] at *
              lcg_sub
              lcg_sub
              refine fin _ _ hne (by simp [rowsF, hc0, hc1, hc2, ho0, ho1, ho2]) fun t x hs => ?_
              lcg_sub
              exact hq x hs
            | some v2 =>
              dsimp only [Option.map_none, Option.map_some, Option.isSome] at *
              lcg_sub
              refine i_dget l2 ?_
              lcg_sub
              lcg_sub
              refine fin _ _ hne (by simp [rowsF, hc0, hc1, hc2, ho0, ho1, ho2]) fun t x hs => ?_
              lcg_sub
              exact hq x hs
          · lcg_sub
            lcg_sub
            refine fin _ _ hne (by simp [rowsF, hc0, hc1, hc2, ho0, ho1, ho2]) fun t x hs => ?_
            lcg_sub
            exact hq x hs
        | some v1 =>
          dsimp only [Option.map_none, Option.map_some, Option.isSome] at *
          lcg_sub
          refine i_dget l1 ?_
          lcg_sub
          refine e_dif (fun hc2 => ?_) (fun hc2 => ?_)
          · lcg_sub
            refine i_din l2 ?_
            cases o2 with
            | none =>
              dsimp only [Option.map_none, Option.map_some, Option.isSome] at *
              lcg_sub
              lcg_sub
              refine fin _ _ hne (by simp [rowsF, hc0, hc1, hc2, ho0, ho1, ho2]) fun t x hs => ?_
              lcg_sub
              exact hq x hs
            | some v2 =>
              dsimp only [Option.map_none, Option.map_some, Option.isSome] at *
              lcg_sub
              refine i_dget l2 ?_
              lcg_sub
              lcg_sub
              refine fin _ _ hne (by simp [rowsF, hc0, hc1, hc2, ho0, ho1, ho2]) fun t x hs => ?_
              lcg_sub
              exact hq x hs
          · lcg_sub
            lcg_sub
            refine fin _ _ hne (by simp [rowsF, hc0, hc1, hc2, ho0, ho1, ho2]) fun t x hs => ?_
            lcg_sub
            exact hq x hs
      · lcg_sub
        refine e_dif (fun hc2 => ?_) (fun hc2 => ?_)
        · lcg_sub
          refine i_din l2 ?_
          cases o2 with
          | none =>
            dsimp only [Option.map_none, Option.map_some, Option.isSome] at *
            lcg_sub
            lcg_sub
            refine fin _ _ hne (by simp [rowsF, hc0, hc1, hc2, ho0, ho1, ho2]) fun t x hs => ?_
            lcg_sub
            exact hq x hs
          | some v2 =>
            dsimp only [Option.map_none, Option.map_some, Option.isSome] at *
            lcg_sub
            refine i_dget l2 ?_
            lcg_sub
            lcg_sub
            refine fin _ _ hne (by simp [rowsF, hc0, hc1, hc2, ho0, ho1, ho2]) fun t x hs => ?_
            lcg_sub
            exact hq x hs
        · lcg_sub
          lcg_sub
          refine fin _ _ hne (by simp [rowsF, hc0, hc1, hc2, ho0, ho1, ho2]) fun t x hs => ?_
          lcg_sub
          exact hq x hs
  · lcg_sub
    refine e_dif (fun hc1 => ?_) (fun hc1 => ?_)
    · lcg_sub
      refine i_din l1 ?_
      cases o1 with
      | none =>
        dsimp only [Option.map_none, Option.map_some, Option.isSome] at *
        lcg_sub
        refine e_dif (fun hc2 => ?_) (fun hc2 => ?_)
        · lcg_sub
          refine i_din l2 ?_
          cases o2 with
          | none =>
            dsimp only [Option.map_none, Option.map_some, Option.isSome] at *
            lcg_sub
            lcg_sub
            refine fin _ _ hne (by simp [rowsF, hc0, hc1, hc2, ho0, ho1, ho2]) fun t x hs => ?_
            lcg_sub
            exact hq x hs
          | some v2 =>
            dsimp only [Option.map_none, Option.map_some, Option.isSome] at *
            lcg_sub
            refine i_dget l2 ?_
            lcg_sub
            lcg_sub
            refine fin _ _ hne (by simp [rowsF, hc0, hc1, hc2, ho0, ho1, ho2]) fun t x hs => ?_
            lcg_sub
            exact hq x hs
        · lcg_sub
          lcg_sub
          refine fin _ _ hne (by simp [rowsF, hc0, hc1, hc2, ho0, ho1, ho2]) fun t x hs => ?_
          lcg_sub
          exact hq x hs
      | some v1 =>
        dsimp only [Option.map_none, Option.map_some, Option.isSome] at *
        lcg_sub
        refine i_dget l1 ?_
        lcg_sub
        refine e_dif (fun hc2 => ?_) (fun hc2 => ?_)
        · lcg_sub
          refine i_din l2 ?_
          cases o2 with
          | none =>
            dsimp only [Option.map_none, Option.map_some, Option.isSome] at *
            lcg_sub
            lcg_sub
            refine fin _ _ hne (by simp [rowsF, hc0, hc1, hc2, ho0, ho1, ho2]) fun t x hs => ?_
            lcg_sub
            exact hq x hs
          | some v2 =>
            dsimp only [Option.map_none, Option.map_some, Option.isSome] at *
            lcg_sub
            refine i_dget l2 ?_
            lcg_sub
            lcg_sub
            refine fin _ _ hne (by simp [rowsF, hc0, hc1, hc2, ho0, ho1, ho2]) fun t x hs => ?_
            lcg_sub
            exact hq x hs
        · lcg_sub
          lcg_sub
          refine fin _ _ hne (by simp [rowsF, hc0, hc1, hc2, ho0, ho1, ho2]) fun t x hs => ?_
          lcg_sub
          exact hq x hs
    · lcg_sub
      refine e_dif (fun hc2 => ?_) (fun hc2 => ?_)
      · lcg_sub
        refine i_din l2 ?_
        cases o2 with
        | none =>
          dsimp only [Option.map_none, Option.map_some, Option.isSome] at *
          lcg_sub
          lcg_sub
          refine fin _ _ hne (by simp [rowsF, hc0, hc1, hc2, ho0, ho1, ho2]) fun t x hs => ?_
          lcg_sub
          exact hq x hs
        | some v2 =>
          dsimp only [Option.map_none, Option.map_some, Option.isSome] at *
          lcg_sub
          refine i_dget l2 ?_
          lcg_sub
          lcg_sub
          refine fin _ _ hne (by simp [rowsF, hc0, hc1, hc2, ho0, ho1, ho2]) fun t x hs => ?_
          lcg_sub
          exact hq x hs
      · lcg_sub
        lcg_sub
        refine fin _ _ hne (by simp [rowsF, hc0, hc1, hc2, ho0, ho1, ho2]) fun t x hs => ?_
        lcg_sub
        exact hq x hs
set_option maxHeartbeats 4000000 in
theorem v_cheapest (ds : List D) (Qd : Bool → D → List D → Prop) (Ed : EdT) (hl : ds.length = 4) (h : scheapest ds Qd Ed) : m_cheapest sfollowed slayers (endsD [.S, .S, .S, .S] Qd) (startD ["size", "schedule", "begin", "end", "prices", "thread", "at", "gap"] [.S, .S, .S, .S] ds) := by
  obtain ⟨n, gs, b, e, rfl, h2, hl, h0, hq⟩ := h
  unfold m_cheapest
  lcg_src
  lcg_sub
  refine i_layers h2 hl fun Ls hL => ?_
  have hat := at_getD dkI Ls (k := 0) [] (by have := hL.1; omega)
  have D0 := hL.2 0 (Nat.zero_le _)
  rw [List.drop_zero] at D0
  have l0 := (lookD_prK (Ls.getD 0 []) b).1
  rw [D0.at_] at l0
  lcg_sub
  refine i_ix hat ?_
  lcg_sub
  refine i_dnin l0 ?_
  rcases ho : prP n e gs b with _ | p
  · rw [ho] at h0
    dsimp only [Option.map_none, Option.map_some, Option.isSome]
    lcg_sub
    exact h0 rfl
  dsimp only [Option.map_none, Option.map_some, Option.isSome]
  lcg_sub
  refine loop_enum (fun i xs Γ => ∃ (dn o' t : List Int) (rest : Int) (c6 c7 : Sl), xs = o'.map D.int ∧ Γ = [.sh (.int n), .sh (iL gs), .sh (.int b), .sh (.int e), .sh (.lst (Ls.map dkI)), .ow (.lst (t.map D.int)), c6, c7] ∧ fr c6 = true ∧ fr c7 = true ∧ gs = dn ++ o' ∧ dn.length = i ∧ t.length = i + 1 ∧ ig t 0 = b ∧ prP n e o' (ig t (i : Int)) = some rest ∧ cntN t i + rest = p ∧ ∀ j : Nat, j < i → stB n (ig t (j : Int)) (ig t ((j : Int) + 1)) (ig gs (j : Int)) = true) ?_ ?_ ?_ _ _ _ ⟨[], gs, [b], p, .no, .no, rfl, rfl, rfl, rfl, rfl, rfl, rfl, rfl, ho, by show (0 : Int) + p = p; omega, fun j hj => absurd hj (Nat.not_lt_zero _)⟩
  · intro i xs Γ _; exact trivial
  · rintro i Γ ⟨dn, o', t, rest, c6, c7, hx, rfl, f6, f7, he, hi, hlt, hb, hr, hc, hs⟩
    have e0 : o' = [] := by cases o' with | nil => rfl | cons _ _ => cases hx
    subst e0
    rw [List.append_nil] at he
    subst he hi
    have hr : (if ig t (gs.length : Int) = e then some 0 else none) = some rest := hr
    lcg_sub
    refine hq p t ho ⟨hlt, hb, ?_, ?_, ?_⟩
    · split at hr
      · assumption
      · cases hr
    · split at hr
      · cases hr; rw [← hc]; omega
      · cases hr
    · exact List.all_eq_true.mpr fun j hj => hs j (List.mem_range.mp hj)
  · rintro i x xs Γ N ⟨dn, o', t, rest, c6, c7, hx, rfl, f6, f7, he, hi, hlt, hb, hr, hc, hs⟩ hN
    cases o' with
    | nil => cases hx
    | cons g o' =>
      injection hx with hx1 hx2
      subst hx1 hx2
      have hgl : dn.length + (o'.length + 1) = gs.length := by rw [he, List.length_append, List.length_cons]
      have hat2 := at_getD dkI Ls (k := i + 1) [] (by have := hL.1; omega)
      have D1 := hL.2 (i + 1) (by omega)
      have hdr : gs.drop (i + 1) = o' := by
        have z : gs = (dn ++ [g]) ++ o' := by rw [he, List.append_assoc]; rfl
        rw [z, ← hi, show dn.length + 1 = (dn ++ [g]).length by simp, List.drop_left]
      rw [hdr] at D1
      have hgi : ig gs (i : Int) = g := by
        rw [he, ← hi]
        show ig (dn ++ g :: o') _ = g
        unfold ig
        simp
      have hng := ig_neg1 (l := t) (by omega)
      rw [hlt, show i + 1 - 1 = i by omega] at hng
      have hll : (Ls.map dkI).length < 100000 := by rw [List.length_map]; have := hL.1; omega
      lcg_sub
      refine i_ix hat2 ?_
      lcg_sub
      rw [hng]
      refine i_followed h2 D1.at_ hr fun x hx => ?_
      obtain ⟨hst, hP⟩ := hx.st
      lcg_sub
      have hnew : ig (t ++ [x]) ((i : Int) + 1) = x := by
        unfold ig
        rw [if_pos (by omega), show ((i : Int) + 1).toNat = t.length by omega]
        simp
      have hold : ∀ j : Nat, j ≤ i → ig (t ++ [x]) (j : Int) = ig t (j : Int) := fun j hj => ig_app (by omega)
      refine hN _ ⟨dn ++ [g], o', t ++ [x], _, .sh (.int i), .sh (.int g), rfl, by rw [List.map_append], rfl, rfl, by rw [he, List.append_assoc]; rfl, by rw [List.length_append, hi]; rfl, by rw [List.length_append, hlt]; rfl, by rw [← hb]; exact hold 0 (by omega), (congrArg (prP n e o') hnew).trans hP, ?_, fun j hj => ?_⟩
      · rw [cntN, cntN_app (by omega), hnew, hold i (Nat.le_refl _)]
        omega
      · by_cases ej : j = i
        · subst ej
          rw [hnew, hold j (Nat.le_refl _), hgi]
          exact hst
        · have := hs j (by omega)
          rw [hold j (by omega), show (j : Int) + 1 = ((j + 1 : Nat) : Int) by omega, hold (j + 1) (by omega), show ((j + 1 : Nat) : Int) = (j : Int) + 1 by omega]
          exact this
set_option maxHeartbeats 4000000 in
theorem v_cheap_thread (ds : List D) (Qd : Bool → D → List D → Prop) (Ed : EdT) (hl : ds.length = 3) (h : scheap_thread ds Qd Ed) : m_cheap_thread scosts scarried scheapest (endsD [.S, .S, .S] Qd) (startD ["size", "schedule", "outcome", "end", "begin", "price"] [.S, .S, .S] ds) := by
  obtain ⟨n, gs, o, rfl, h2, h3, hl, hol, ho, h, h'⟩ := h
  unfold m_cheap_thread
  lcg_src
  lcg_sub
  refine loop_rng n (fun e Γ => ∃ (c3 c4 c5 : Sl), 0 ≤ e ∧ Γ = [.sh (.int n), .sh (iL gs), .sh (.tup (o.map D.int)), c3, c4, c5] ∧ (fr c3 = true ∧ fr c4 = true ∧ fr c5 = true) ∧ ∀ e' b p : Int, 0 ≤ e' → e' < e → ¬ Cheap n gs o e' b p) ?_ ?_ ?_ _ _ _ (by omega) ⟨.no, .no, .no, by omega, rfl, ⟨rfl, rfl, rfl⟩, fun e' b p _ _ => by omega⟩
  · intro i Γ _; exact trivial
  · rintro Γ ⟨c3, c4, c5, -, rfl, -, hn⟩
    lcg_sub
    exact h' hn
  · rintro e Γ N he ⟨c3, c4, c5, e0, rfl, ⟨f3, f4, f5⟩, hn⟩ hN
    lcg_sub
    refine i_costs h2 (by omega) fun L hL => ?_
    unfold prL
    lcg_sub
    refine loop_inv (fun xs Γ => ∃ (M : List (Int × Int)) (c4 c5 : Sl), M.Sublist L ∧ xs = M.map (fun p => .tup [.int p.1, .int p.2]) ∧ Γ = [.sh (.int n), .sh (iL gs), .sh (.tup (o.map D.int)), .sh (.int e), c4, c5] ∧ (fr c4 = true ∧ fr c5 = true) ∧ ∀ q ∈ L, q ∈ M ∨ ¬ q.2 < carrO o q.1 e) ?_ ?_ ?_ _ _ ⟨L, c4, c5, List.Sublist.refl _, rfl, rfl, ⟨f4, f5⟩, fun q hq => .inl hq⟩
    · intro xs Γ _; exact trivial
    · rintro Γ ⟨M, c4, c5, -, hM, rfl, ⟨f4, f5⟩, hq⟩
      obtain rfl : M = [] := by cases M with
        | nil => rfl
        | cons a b => exact absurd hM (by simp)
      refine hN _ ⟨_, _, _, by omega, rfl, ⟨rfl, f4, f5⟩, fun e' b p p0 p1 => ?_⟩
      by_cases hee : e' = e
      · subst hee
        rintro ⟨q1, q2⟩
        rcases hq (b, p) ((hL.mem _ _).mpr q1) with q3 | q3
        · exact nomatch q3
        · exact q3 q2
      · exact hn e' b p p0 (by omega)
    · rintro x xs Γ N2 ⟨M, c4, c5, hsub, hM, rfl, ⟨f4, f5⟩, hq⟩ hN2
      cases M with
      | nil => exact absurd hM (by simp)
      | cons q M =>
        rw [List.map_cons] at hM
        injection hM with hM1 hM2
        subst hM1
        have hq1 := (hL.mem q.1 q.2).mp (hsub.subset (List.mem_cons_self ..))
        have hnear := prP_near e gs q.1 q.2 hq1
        lcg_sub
        refine i_carried (by omega) (by omega) (by omega) (by omega) ho ?_
        lcg_sub
        by_cases hlt : q.2 < carrO o q.1 e
        · refine e_dT hlt ?_
          lcg_sub
          refine i_cheapest h2 (by omega) (fun z => by rw [z] at hq1; cases hq1) fun p t hp ht => ?_
          rw [hq1] at hp
          injection hp with hp
          subst hp
          lcg_sub
          exact h e q.1 q.2 t ⟨hq1, hlt⟩ ht
        · refine e_dF hlt ?_
          lcg_sub
          refine hN2 _ ⟨M, _, _, (List.sublist_cons_self _ _).trans hsub, hM2, rfl, ⟨rfl, rfl⟩, fun x hx => ?_⟩
          rcases hq x hx with h1 | h1
          · rcases List.mem_cons.mp h1 with rfl | h1
            · exact .inr hlt
            · exact .inl h1
          · exact .inr h1
set_option maxHeartbeats 4000000 in
theorem v_Ring_size {C_Ring : Addr} (ds : List D) (Qd : Bool → D → List D → Prop) (Ed : EdT) (hl : ds.length = 1) (h : sRing_size C_Ring ds Qd Ed) : m_Ring_size C_Ring (endsD [.S] Qd) (startD ["self"] [.S] ds) := by
  obtain ⟨l, rfl, hq⟩ := h
  unfold m_Ring_size
  lcg_src
  lcg_sub
  exact hq
set_option maxHeartbeats 4000000 in
theorem v_back (ds : List D) (Qd : Bool → D → List D → Prop) (Ed : EdT) (hl : ds.length = 1) (h : sback ds Qd Ed) : m_back (endsD [.S] Qd) (startD ["outcome", "size", "begins", "person", "end"] [.S] ds) := by
  obtain ⟨n, t, rfl, O, h2, hq⟩ := h
  unfold m_back
  lcg_src
  have hl := O.len
  lcg_sub
  refine loop_enum (fun i xs Γ => ∃ (c3 c4 : Sl) (l : List Int), xs = (t.drop i).map D.int ∧ i ≤ n ∧ Γ = [.sh (.tup (t.map D.int)), .sh (.int t.length), .ow (iL l), c3, c4] ∧ fr c3 = true ∧ fr c4 = true ∧ Scat n t l i) ?_ ?_ ?_ _ 0 _ ⟨_, _, _, rfl, Nat.zero_le _, rfl, rfl, rfl, by rw [hl]; exact Scat.zero n t⟩
  · intro i xs Γ _; exact trivial
  · rintro i Γ ⟨c3, c4, l, hx, hi, rfl, f3, f4, S⟩
    have hk : i = n := by
      have := congrArg List.length hx
      rw [List.length_map, List.length_drop, List.length_nil] at this
      omega
    subst hk
    rw [S.done O]
    lcg_sub
    exact hq
  · rintro i x xs Γ N ⟨c3, c4, l, hx, hi, rfl, f3, f4, S⟩ hN
    obtain ⟨hin, rfl, hxs⟩ := drop_get hx
    have r := O.res (i := i) (by omega)
    have hS := S.len
    have st := S.step O (show i < n by omega)
    rw [← hl] at r st
    have hd := Int.emod_add_mul_ediv (ig t (i : Int)) t.length
    rw [Int.mul_comm] at hd
    rw [show (i : Int) - ig t (i : Int) + ig t (i : Int) % t.length = i - ig t (i : Int) / t.length * t.length by omega] at st
    lcg_sub
    exact hN _ ⟨_, _, _, hxs, by omega, rfl, rfl, rfl, by rw [hl] at st ⊢; exact st⟩
set_option maxHeartbeats 4000000 in
theorem v_calls_taken_back (ds : List D) (Qd : Bool → D → List D → Prop) (Ed : EdT) (hl : ds.length = 3) (h : scalls_taken_back ds Qd Ed) : m_calls_taken_back sback (endsD [.S, .S, .S] Qd) (startD ["size", "schedule", "outcome", "begins", "found", "at", "shift", "gap", "following", "first", "second"] [.S, .S, .S] ds) := by
  obtain ⟨n, gs, o, rfl, h2, h3, hl, O, hs, h, h'⟩ := h
  unfold m_calls_taken_back
  lcg_src
  lcg_sub
  refine i_back O (by omega) ?_
  have OT := O.inv
  generalize invO o = T at *
  lcg_sub
  rw [show ((gs.length : Int) - 1 - -1).toNat = gs.length by omega]
  refine loop_down (fun r Γ => ∃ (c5 c6 c7 c8 c9 c10 : Sl), r ≤ gs.length ∧ Γ = [.sh (.int n), .sh (iL gs), .sh (.tup (o.map D.int)), .ow (iL (tbT (gs.drop r) T)), .ow (iL (tbI (gs.drop r) T r).reverse), c5, c6, c7, c8, c9, c10] ∧ (fr c5 = true ∧ fr c6 = true ∧ fr c7 = true ∧ fr c8 = true ∧ fr c9 = true ∧ fr c10 = true)) ?_ ?_ ?_ gs.length _ ⟨.no, .no, .no, .no, .no, .no, Nat.le_refl _, by rw [List.drop_length]; rfl, rfl, rfl, rfl, rfl, rfl, rfl⟩
  · intro r Γ _; exact trivial
  · rintro Γ ⟨c5, c6, c7, c8, c9, c10, -, rfl, f5, f6, f7, f8, f9, f10⟩
    rw [List.drop_zero]
    lcg_sub
    rw [rgD_iota]
    refine i_eqL ?_
    by_cases he : tbT gs T = iota n
    · lcg_sub
      rw [← List.map_reverse, List.reverse_reverse]
      exact h he
    · lcg_sub
      exact h' he
  · rintro r Γ N ⟨c5, c6, c7, c8, c9, c10, hr, rfl, f5, f6, f7, f8, f9, f10⟩ hN
    obtain ⟨g0, g1⟩ := hs.mem _ (ig_mem (l := gs) (i := r) (by omega))
    obtain ⟨e1, e2⟩ := tbk_at gs T (r := r) (by omega)
    have OU := out_tb h2 (gs.drop (r + 1)) T (fun x hx => hs.mem x (List.mem_of_mem_drop hx)) OT
    have hI := tbI_len (gs.drop (r + 1)) T ((r + 1 : Nat) : Int)
    rw [List.length_drop] at hI
    lcg_sub
    generalize tbT (gs.drop (r + 1)) T = U at e1 e2 OU ⊢
    generalize tbI (gs.drop (r + 1)) T ((r + 1 : Nat) : Int) = X at e2 hI ⊢
    generalize ig gs (r : Int) = g at g0 g1 e1 e2 ⊢
    obtain ⟨k, rfl⟩ := Int.eq_ofNat_of_zero_le g0
    have hk : k < n := by omega
    have hlU := OU.len
    have hX : X.length < 100000 := by omega
    have hnx := nxP_lt (n := n) (g := k) (by omega)
    have i1 : -(U.length : Int) ≤ (nxP n k : Nat) ∧ ((nxP n k : Nat) : Int) < U.length := by omega
    rw [Int.toNat_natCast] at e1 e2
    unfold sbT at e1
    unfold upT at e1 e2
    rw [hlU] at e1 e2
    rw [nxP_mod hk, shP_div hk]
    lcg_sub
    by_cases hp : ig U (nxP n k : Nat) + shP n k < ig U (k : Int)
    · rw [decide_eq_true hp, if_pos rfl] at e1 e2
      refine e_dT hp ?_
      have Os := OU.swap h2 hk
      unfold swapT at e1
      rw [hlU] at e1
      lcg_sub
      refine hN _ ⟨.sh (.int r), .sh (.int (shP n k)), .sh (.int k), .sh (.int (nxP n k : Nat)), .sh (.int (ig U (k : Int))), .sh (.int (ig U (nxP n k : Nat) + shP n k)), by omega, ?_, rfl, rfl, rfl, rfl, rfl, rfl⟩
      · rw [e1, e2, List.reverse_cons]
      · rw [List.length_reverse]; exact hX
    · rw [decide_eq_false hp, if_neg Bool.false_ne_true] at e1 e2
      refine e_dF hp ?_
      lcg_sub
      refine hN _ ⟨.sh (.int r), .sh (.int (shP n k)), .sh (.int k), .sh (.int (nxP n k : Nat)), .sh (.int (ig U (k : Int))), .sh (.int (ig U (nxP n k : Nat) + shP n k)), by omega, ?_, rfl, rfl, rfl, rfl, rfl, rfl⟩
      rw [e1, e2]
set_option maxHeartbeats 4000000 in
theorem v_Ring_rank {C_Ring : Addr} (ds : List D) (Qd : Bool → D → List D → Prop) (Ed : EdT) (hl : ds.length = 2) (h : sRing_rank C_Ring ds Qd Ed) : m_Ring_rank C_Ring (sRing_size C_Ring) (endsD [.S, .S] Qd) (startD ["self", "place"] [.S, .S] ds) := by
  obtain ⟨l, p, rfl, h1, hq⟩ := h
  unfold m_Ring_rank
  lcg_src
  have m1 := Int.emod_nonneg p (show (l.length : Int) ≠ 0 by omega)
  have m2 := Int.emod_lt_of_pos p (show (0 : Int) < l.length by omega)
  have m3 : -(l.length : Int) ≤ p % l.length ∧ p % l.length < l.length := ⟨by omega, by omega⟩
  lcg_sub
  exact hq
set_option maxHeartbeats 4000000 in
theorem v_end_of (ds : List D) (Qd : Bool → D → List D → Prop) (Ed : EdT) (hl : ds.length = 2) (h : send_of ds Qd Ed) : m_end_of (endsD [.S, .S] Qd) (startD ["outcome", "place", "laps", "person"] [.S, .S] ds) := by
  obtain ⟨o, x, rfl, h1, h2, hq⟩ := h
  unfold m_end_of
  lcg_src
  have m1 := Int.emod_nonneg x (show (o.length : Int) ≠ 0 by omega)
  have m2 := Int.emod_lt_of_pos x (show (0 : Int) < o.length by omega)
  have m3 : -(o.length : Int) ≤ x % o.length ∧ x % o.length < o.length := ⟨by omega, by omega⟩
  lcg_sub
  exact hq
set_option maxHeartbeats 4000000 in
theorem v_barred_pass {C_Ring : Addr} (ds : List D) (Qd : Bool → D → List D → Prop) (Ed : EdT) (hl : ds.length = 2) (h : sbarred_pass C_Ring ds Qd Ed) : m_barred_pass C_Ring (sRing_size C_Ring) (sRing_rank C_Ring) send_of (endsD [.S, .S] Qd) (startD ["ring", "outcome", "one", "other"] [.S, .S] ds) := by
  obtain ⟨n, r, o, rfl, h0, h00, h1, h2, hq⟩ := h
  unfold m_barred_pass
  lcg_src
  lcg_sub
  refine loop_rng n (fun a Γ => ∃ (c2 c3 : Sl), Γ = [.sh (ringD C_Ring r), .sh (.tup (o.map D.int)), c2, c3] ∧ fr c2 = true ∧ fr c3 = true ∧ 0 ≤ a ∧ ∀ a' b' : Int, 0 ≤ a' → a' < a → a' < b' → b' < a' + n → ¬ bad r o a' b') ?_ ?_ ?_ _ _ _ (by omega) ⟨_, _, rfl, rfl, rfl, by omega, fun a' b' h h' => by omega⟩
  · intro i Γ _; exact trivial
  · rintro Γ ⟨c2, c3, rfl, -, -, -, hn⟩
    lcg_sub
    exact hq none fun a b h h' => hn a b h h'
  · rintro a Γ N ha ⟨c2, c3, rfl, f2, f3, a0, hn⟩ hN
    lcg_sub
    refine loop_rng (a + n) (fun b Γ => ∃ (c3 : Sl), Γ = [.sh (ringD C_Ring r), .sh (.tup (o.map D.int)), .sh (.int a), c3] ∧ fr c3 = true ∧ a < b ∧ ∀ b' : Int, a < b' → b' < b → ¬ bad r o a b') ?_ ?_ ?_ _ _ _ (by omega) ⟨_, rfl, f3, by omega, fun b' h h' => by omega⟩
    · intro i Γ _; exact trivial
    · rintro Γ ⟨c3, rfl, f3, -, hn2⟩
      exact hN _ ⟨_, _, rfl, rfl, f3, by omega, fun a' b' x1 x2 x3 x4 => by
        by_cases e : a' = a
        · subst e; exact hn2 b' x3 x4
        · exact hn a' b' x1 (by omega) x3 x4⟩
    · rintro b Γ M hb ⟨c3, rfl, f3, b0, hn2⟩ hM
      have hext : ¬ bad r o a b → ∀ b' : Int, a < b' → b' < b + 1 → ¬ bad r o a b' := fun z b' x1 x2 => by
        by_cases e : b' = b
        · subst e; exact z
        · exact hn2 b' x1 (by omega)
      lcg_sub
      refine e_dif (fun hc => ?_) (fun hc => ?_)
      · lcg_sub
        refine e_dif (fun hd => ?_) (fun hd => ?_)
        · lcg_sub
          exact hq (some (a, b)) ⟨a0, ha, b0, hb, ⟨hc, hd⟩, hn, hn2⟩
        · lcg_sub
          exact hM _ ⟨_, rfl, rfl, by omega, hext fun z => hd z.2⟩
      · lcg_sub
        exact hM _ ⟨_, rfl, rfl, by omega, hext fun z => hc z.1⟩
set_option maxHeartbeats 4000000 in
theorem v_decide {C_Ring : Addr} (ds : List D) (Qd : Bool → D → List D → Prop) (Ed : EdT) (hl : ds.length = 3) (h : sdecide C_Ring ds Qd Ed) : m_decide C_Ring scheap_thread (sRing_size C_Ring) scalls_taken_back (sbarred_pass C_Ring) (endsD [.S, .S, .S] Qd) (startD ["ring", "schedule", "outcome", "barred", "indexes"] [.S, .S, .S] ds) := by
  obtain ⟨n, r, gs, o, rfl, hr, h2, h3, hl, O, hs, ho, hq⟩ := h
  unfold m_decide
  lcg_src
  lcg_sub
  refine i_barredX hr O.len h2 h3 fun x hx => ?_
  cases x with
  | some ab =>
    obtain ⟨a, b⟩ := ab
    unfold opD
    lcg_sub
    refine i_isnN (b := false) rfl ?_
    lcg_sub
    exact hq _ (.pass a b hx)
  | none =>
    have P := Pos.of_bar hr O.len (by omega) hx
    unfold opD
    lcg_sub
    refine i_isnN (b := true) rfl ?_
    lcg_sub
    rw [hr]
    refine i_taken h2 h3 hl O hs (fun he => ?_) (fun he => ?_)
    · lcg_sub
      refine i_isnN (b := false) rfl ?_
      lcg_sub
      exact hq _ (.kept P he)
    · lcg_sub
      refine i_isnN (b := true) rfl ?_
      lcg_sub
      rw [hr]
      refine i_cheap h2 h3 hl O.len ho (fun e b p t hc ht => ?_) fun hno => absurd (no_cheap h2 O hs hno) he
      lcg_sub
      exact hq _ (.thread e b p t P he hc ht)
set_option maxHeartbeats 4000000 in
theorem v_is_integer (ds : List D) (Qd : Bool → D → List D → Prop) (Ed : EdT) (hl : ds.length = 1) (h : sis_integer ds Qd Ed) : m_is_integer (endsD [.S] Qd) (startD ["thing"] [.S] ds) := by
  obtain ⟨d, rfl, hd, hq⟩ := h
  unfold m_is_integer
  lcg_src
  cases d with
  | obj C ns ds => cases hd
  | cls C => cases hd
  | xcl C n => cases hd
  | dtl kvs => cases hd
  | pnK o vs => cases hd
  | pnT o vs => cases hd
  | _ =>
    lcg_sub
    exact hq
set_option maxHeartbeats 4000000 in
theorem v_is_between (ds : List D) (Qd : Bool → D → List D → Prop) (Ed : EdT) (hl : ds.length = 3) (h : sis_between ds Qd Ed) : m_is_between sis_integer (endsD [.S, .S, .S] Qd) (startD ["thing", "least", "most"] [.S, .S, .S] ds) := by
  obtain ⟨d, lo, hi, rfl, hd, hq⟩ := h
  unfold m_is_between
  lcg_src
  lcg_sub
  refine i_isint hd ?_
  cases d with
  | int i =>
    have hq : Qd false (.bl (decide (lo ≤ i) && decide (i ≤ hi))) [] := hq
    show ptk _ _ _ false (.bl true) []
    lcg_sub
    refine e_ite (fun h1 => ?_) (fun h1 => ?_)
    · rw [h1] at hq
      lcg_sub
      exact hq
    · rw [h1] at hq
      lcg_sub
      exact hq
  | _ =>
    have hq : Qd false (.bl false) [] := hq
    show ptk _ _ _ false (.bl false) []
    lcg_sub
    exact hq
set_option maxHeartbeats 4000000 in
theorem v_is_size (ds : List D) (Qd : Bool → D → List D → Prop) (Ed : EdT) (hl : ds.length = 1) (h : sis_size ds Qd Ed) : m_is_size sis_between (endsD [.S] Qd) (startD ["thing"] [.S] ds) := by
  obtain ⟨d, rfl, hd, hq⟩ := h
  unfold m_is_size
  lcg_src
  lcg_sub
  refine i_btw hd ?_
  lcg_sub
  exact hq
set_option maxHeartbeats 4000000 in
theorem v_Ring___init__ {C_Ring : Addr} (ds : List D) (Qd : Bool → D → List D → Prop) (Ed : EdT) (hl : ds.length = 2) (h : sRing___init__ C_Ring ds Qd Ed) : m_Ring___init__ C_Ring sis_integer sis_size (endsD [.M, .S] Qd) (startD ["self", "ranks", "rank"] [.M, .S] ds) := by
  obtain ⟨l, rfl, h1, h2, hq⟩ := h
  unfold m_Ring___init__
  lcg_src
  lcg_sub
  refine comp_fn (fun _ => some (.bl true)) (by first | exact trivial | rfl) rfl _ _ (fun x hx N hN => ?_) ?_ ?_
  · obtain ⟨i, _, rfl⟩ := List.mem_map.mp hx
    lcg_sub
    exact hN
  · simp only [List.length_nil, List.length_map]; omega
  · rw [List.nil_append, all_true]
    lcg_sub
    rw [rep_true]
    lcg_sub
    exact hq
set_option maxHeartbeats 4000000 in
theorem v_cost (ds : List D) (Qd : Bool → D → List D → Prop) (Ed : EdT) (hl : ds.length = 1) (h : scost ds Qd Ed) : m_cost (endsD [.S] Qd) (startD ["thread", "at"] [.S] ds) := by
  obtain ⟨t, rfl, h0, hl, hn, hq⟩ := h
  unfold m_cost
  lcg_src
  lcg_sub
  rw [show ((t.length : Int) - 1).toNat = t.length - 1 by omega, rngD_iota]
  refine comp_fn (filG fun x => decide (ig t (x + 1) < ig t x)) (by exact trivial) (by rfl) _ _ (fun x hx N hN => ?_) ?_ ?_
  · obtain ⟨i, hi, rfl⟩ := List.mem_map.mp hx
    have hi := mem_iota.mp hi
    lcg_sub
    by_cases hc : ig t (i + 1) < ig t i
    · refine e_dT hc ?_
      rw [filG_T (decide_eq_true hc)] at hN
      lcg_sub
      exact hN
    · refine e_dF hc ?_
      rw [filG_F (decide_eq_false hc)] at hN
      lcg_sub
      exact hN
  · rw [List.length_map, iota_len]; simp only [List.length_nil]; omega
  · rw [List.nil_append, filG_all]
    lcg_sub
    rw [cnt_filter hn _ (by omega)]
    exact hq
set_option maxHeartbeats 4000000 in
theorem v_is_thread (ds : List D) (Qd : Bool → D → List D → Prop) (Ed : EdT) (hl : ds.length = 3) (h : sis_thread ds Qd Ed) : m_is_thread sis_integer (endsD [.S, .S, .S] Qd) (startD ["size", "schedule", "thing", "at", "gap", "step", "one"] [.S, .S, .S] ds) := by
  obtain ⟨n, gs, d, rfl, h1, h2, hl, hd, hq⟩ := h
  unfold m_is_thread
  lcg_src
  cases d with
  | obj C ns ds => exact absurd hd.ty Bool.false_ne_true
  | cls C => exact absurd hd.ty Bool.false_ne_true
  | xcl C n => exact absurd hd.ty Bool.false_ne_true
  | scr ds => exact absurd rfl (hd.noscr ds)
  | lst ds =>
    obtain ⟨hty, hdl⟩ := hd.its ds rfl
    lcg_sub
    by_cases hlen : ds.length = gs.length + 1
    · rw [decide_eq_true (show (ds.length : Int) = gs.length + 1 by omega)]
      lcg_sub
      refine comp_fn (fun d => some (.bl (isIntD d))) (by exact trivial) (by rfl) _ _ (fun x hx N hN => ?_) ?_ ?_
      · lcg_sub
        refine i_isint (hty x hx).1 ?_
        lcg_sub
        exact hN
      · simp only [List.length_nil]; omega
      rw [List.nil_append, isint_map]
      lcg_sub
      by_cases hall : (ds.map isIT).all id = true
      · rw [hall]
        obtain ⟨l, rfl⟩ := all_ints hall
        rw [List.length_map] at hlen
        rw [thr_ints hlen] at hq
        lcg_sub
        refine loop_enum (fun i xs Γ => ∃ (c3 c4 c5 : Sl), xs = (gs.drop i).map D.int ∧ i ≤ gs.length ∧ Γ = [.sh (.int n), .sh (iL gs), .sh (.lst (l.map D.int)), c3, c4, c5, .no] ∧ (fr c3 = true ∧ fr c4 = true ∧ fr c5 = true) ∧ ∀ k : Nat, k < i → stB n (ig l (k : Int)) (ig l ((k : Int) + 1)) (ig gs (k : Int)) = true) ?_ ?_ ?_ _ 0 _ ⟨.no, .no, .no, rfl, Nat.zero_le _, rfl, ⟨rfl, rfl, rfl⟩, fun k h => absurd h (Nat.not_lt_zero k)⟩
        · intro i xs Γ _; exact trivial
        · rintro i Γ ⟨c3, c4, c5, hx, hi, rfl, -, hk⟩
          have hig : i = gs.length := by
            have := congrArg List.length hx
            rw [List.length_map, List.length_drop, List.length_nil] at this
            omega
          rw [thN_true (fun k h => hk k (by omega))] at hq
          lcg_sub
          exact hq
        · rintro i x xs Γ N ⟨c3, c4, c5, hx, hi, rfl, ⟨f3, f4, f5⟩, hk⟩ hN
          have hig : i < gs.length := by
            rcases Nat.lt_or_ge i gs.length with h | h
            · exact h
            · rw [List.drop_of_length_le h] at hx; cases hx
          rw [List.drop_eq_getElem_cons hig, List.map_cons] at hx
          injection hx with hx1 hx2
          subst hx1 hx2
          have eg : gs[i] = ig gs (i : Int) := (ig_get hig).symm
          rw [eg]
          have i1 : -(l.length : Int) ≤ i ∧ (i : Int) < l.length := by omega
          have i2 : -(l.length : Int) ≤ (i : Int) + 1 ∧ (i : Int) + 1 < l.length := by omega
          lcg_sub
          have eb : decide (((ig l (i : Int) - ig l ((i : Int) + 1)).natAbs : Int) = if decide ((ig l ((i : Int) + 1) - ig gs (i : Int)) % (n : Int) = 0) = true then 1 else 0) = stB n (ig l (i : Int)) (ig l ((i : Int) + 1)) (ig gs (i : Int)) := by
            unfold stB
            simp only [decide_eq_true_eq]
          rw [eb]
          by_cases hs : stB n (ig l (i : Int)) (ig l ((i : Int) + 1)) (ig gs (i : Int)) = true
          · rw [hs]
            lcg_sub
            refine hN _ ⟨.sh (.int i), .sh (.int (ig gs (i : Int))), .sh (.int (ig l (i : Int) - ig l ((i : Int) + 1)).natAbs), rfl, by omega, ?_, ⟨rfl, rfl, rfl⟩, fun k hk2 => ?_⟩
            · rfl
            · by_cases e : k = i
              · subst e; exact hs
              · exact hk k (by omega)
          · have hs := eq_false_of_ne_true hs
            rw [hs]
            rw [thN_false hig hs] at hq
            lcg_sub
            exact hq
      · have hall := eq_false_of_ne_true hall
        rw [hall]
        rw [noint hall] at hq
        lcg_sub
        exact hq
    · rw [nolen hlen] at hq
      rw [decide_eq_false (show ¬ (ds.length : Int) = gs.length + 1 by omega)]
      lcg_sub
      exact hq
  | _ => first | exact absurd hd.ty Bool.false_ne_true | (lcg_sub; exact hq)
set_option maxHeartbeats 4000000 in
theorem v_is_barred {C_Ring : Addr} (ds : List D) (Qd : Bool → D → List D → Prop) (Ed : EdT) (hl : ds.length = 4) (h : sis_barred C_Ring ds Qd Ed) : m_is_barred C_Ring (sRing_rank C_Ring) send_of sis_integer sis_between (sRing_size C_Ring) (endsD [.S, .S, .S, .S] Qd) (startD ["ring", "outcome", "one", "other"] [.S, .S, .S, .S] ds) := by
  obtain ⟨n, r, o, x, y, rfl, hr, hl, h2, h3, hx, hy, hq⟩ := h
  unfold m_is_barred
  lcg_src
  lcg_sub
  rw [hr]
  refine i_btw hx ?_
  by_cases hb : btwD 0 ((n : Int) - 1) x = true
  · rw [hb]
    lcg_sub
    refine i_isint hy ?_
    cases x with
    | int a =>
      have hb : (decide (0 ≤ a) && decide (a ≤ (n : Int) - 1)) = true := hb
      cases y with
      | int b =>
        have hq : Qd false (.bl (barI n r o a b)) [] := hq
        unfold barI at hq
        rw [hb, Bool.true_and] at hq
        rw [Bool.and_eq_true] at hb
        have ha := of_decide_eq_true hb.1
        show ptk _ _ _ false (.bl true) []
        lcg_sub
        refine e_ite (fun c1 => ?_) (fun c1 => ?_)
        · have c1 := of_decide_eq_true c1
          rw [decide_eq_false (show ¬ a < b by omega)] at hq
          lcg_sub
          exact hq
        · have c1 := of_decide_eq_false c1
          rw [decide_eq_true (show a < b by omega), Bool.true_and] at hq
          lcg_sub
          refine e_ite (fun c2 => ?_) (fun c2 => ?_)
          · rw [c2] at hq
            lcg_sub
            exact hq
          · rw [c2] at hq
            lcg_sub
            exact hq
      | _ =>
        have hq : Qd false (.bl false) [] := hq
        show ptk _ _ _ false (.bl false) []
        lcg_sub
        exact hq
    | _ => exact nomatch hb
  · have hb := eq_false_of_ne_true hb
    rw [hb]
    rw [barB_l hb rfl] at hq
    lcg_sub
    exact hq
set_option maxHeartbeats 4000000 in
theorem v_is_reason {C_Ring : Addr} (ds : List D) (Qd : Bool → D → List D → Prop) (Ed : EdT) (hl : ds.length = 4) (h : sis_reason C_Ring ds Qd Ed) : m_is_reason C_Ring scost scarried sis_thread (sRing_size C_Ring) (sis_barred C_Ring) (endsD [.S, .S, .S, .S] Qd) (startD ["ring", "schedule", "outcome", "thing"] [.S, .S, .S, .S] ds) := by
  obtain ⟨n, r, gs, o, d, b, rfl, hr, hol, h2, h3, hgl, ho, hR, hq⟩ := h
  unfold m_is_reason
  lcg_src
  have e2 : (2 : Int) ∈ [(2 : Int), 3] := by decide
  have e3 : (3 : Int) ∈ [(2 : Int), 3] := by decide
  cases hR with
  | pass a b =>
    lcg_sub
    refine i_ninP (i := 3) (l := [2, 3]) ?_
    refine e_tst (e_nT e3 ?_)
    lcg_sub
    refine e_dT rfl ?_
    lcg_sub
    refine i_eqS (by decide +kernel) ?_
    lcg_sub
    refine i_isbar hr hol h2 h3 rfl rfl ?_
    lcg_sub
    exact hq
  | kept l =>
    lcg_sub
    refine i_ninP (i := 2) (l := [2, 3]) ?_
    refine e_tst (e_nT e2 ?_)
    lcg_sub
    refine e_dF (by simp) ?_
    lcg_sub
    refine i_ne (b := false) (by decide +kernel) (by decide +kernel) (by decide +kernel) ?_
    lcg_sub
    exact hq
  | thread l hll hb =>
    have hT := thOk_ints hll hb
    lcg_sub
    refine i_ninP (i := 2) (l := [2, 3]) ?_
    refine e_tst (e_nT e2 ?_)
    lcg_sub
    refine e_dF (by simp) ?_
    lcg_sub
    refine i_ne (b := true) (by decide +kernel) (by decide +kernel) (by decide +kernel) ?_
    lcg_sub
    rw [hr]
    refine i_isthr h2 h3 hgl hT ?_
    by_cases hln : l.length = gs.length + 1
    · rw [thr_ints hln]
      rw [decide_eq_true hln, Bool.true_and] at hq
      by_cases hth : thN n gs l = true
      · rw [hth]
        rw [hth, Bool.true_and] at hq
        lcg_sub
        refine i_cost (by omega) (by omega) (thN_near hln hth) ?_
        have b0 := hb _ (ig_mem (l := l) (i := 0) (by omega))
        have b1 := hb _ (ig_mem (l := l) (i := -1) (by omega))
        rw [hln, Nat.add_sub_cancel]
        lcg_sub
        refine i_carried (by omega) (by omega) b0 b1 ho ?_
        lcg_sub
        exact hq
      · have hth := eq_false_of_ne_true hth
        rw [hth]
        rw [hth, Bool.false_and] at hq
        lcg_sub
        exact hq
    · rw [show thrB n gs (iL l) = false from nolen (by rw [List.length_map]; exact hln)]
      rw [decide_eq_false hln, Bool.false_and, Bool.false_and] at hq
      lcg_sub
      exact hq
set_option maxHeartbeats 4000000 in
theorem v_law_take (ds : List D) (Qd : Bool → D → List D → Prop) (Ed : EdT) (hl : ds.length = 2) (h : slaw_take ds Qd Ed) : m_law_take (endsD [.M, .S] Qd) (startD ["_law_bag_here", "_law_many", "_law_first", "_law_second", "_law_cell", "_law_value"] [.M, .S] ds) := by
  obtain ⟨b, many, rfl, ⟨big, seed, pos, cells, rfl, b1, b2, b3, b4, b5⟩, m1, m2, hq⟩ := h
  unfold m_law_take
  lcg_src
  refine cut (fun Γ => ∃ big seed pos c, Γ = [.io (.lst [.int big, .int seed, .int pos, .lst (cells.map D.int)]), .sh (.int many), .no, .no, c, .no] ∧ 0 ≤ big ∧ 0 ≤ seed ∧ seed < 2147483647 ∧ 0 ≤ pos) (fun N hN => ?_) ?_
  · by_cases hb : big = 0
    · subst hb
      lcg_off
      all_goals refine hN _ ⟨_, _, _, _, rfl, ?_, Int.emod_nonneg _ (by decide), Int.emod_lt_of_pos _ (by decide), by omega⟩
      all_goals omega
    · lcg_sub
      exact hN _ ⟨big, seed, pos, .no, rfl, b1, b2, b3, b4⟩
  · rintro _ ⟨big, seed, pos, c, rfl, b1, b2, b3, b4⟩
    have hB : ∀ x : Int, 0 ≤ x → BagD (.lst [.int x, .int seed, .int pos, .lst (cells.map D.int)]) := fun x hx => ⟨_, _, _, _, rfl, hx, b2, b3, b4, b5⟩
    have hx : 0 ≤ (seed + 1) * 39373 % 1000000007 ∧ (seed + 1) * 39373 % 1000000007 < 1000000007 := ⟨Int.emod_nonneg _ (by decide), Int.emod_lt_of_pos _ (by decide)⟩
    by_cases hb : 0 < big
    · lcg_sub
      exact hq _ _ (Int.emod_nonneg _ (by omega)) (Int.emod_lt_of_pos _ m1) (hB _ (Int.ediv_nonneg b1 (by omega)))
    · lcg_off
      all_goals exact hq _ _ (Int.emod_nonneg _ (by omega)) (Int.emod_lt_of_pos _ m1) (hB _ b1)
set_option maxHeartbeats 4000000 in
theorem v_law_mixed (ds : List D) (Qd : Bool → D → List D → Prop) (Ed : EdT) (hl : ds.length = 2) (h : slaw_mixed ds Qd Ed) : m_law_mixed slaw_take (endsD [.M, .S] Qd) (startD ["_law_bag_here", "_law_things", "_law_found", "_law_thing"] [.M, .S] ds) := by
  obtain ⟨b, l, rfl, hb, h1, hq⟩ := h
  unfold m_law_mixed
  lcg_src
  lcg_sub
  refine loop_inv (fun xs Γ => ∃ (b : D) (m : List D) (c3 : Sl), Γ = [.io b, .sh (.lst l), .ow (.lst m), c3] ∧ fr c3 = true ∧ BagD b ∧ (m ++ xs).Perm l) ?_ ?_ ?_ _ _ ⟨_, [], .no, rfl, rfl, hb, List.Perm.refl _⟩
  · intro xs Γ _; exact trivial
  · rintro Γ ⟨b, m, c3, rfl, f3, hb, hp⟩
    rw [List.append_nil] at hp
    lcg_sub
    exact hq _ _ hp hb
  · rintro x xs Γ N ⟨b, m, c3, rfl, f3, hb, hp⟩ hN
    have hml := hp.length_eq
    rw [List.length_append, List.length_cons] at hml
    lcg_sub
    refine ⟨⟨by omega, by omega, by omega⟩, ?_⟩
    lcg_sub
    refine hN _ ⟨_, _, _, rfl, rfl, hbag, List.Perm.trans ?_ hp⟩
    have e1 : (m.take drawn.toNat ++ [x] ++ m.drop drawn.toNat ++ xs).Perm (x :: (m ++ xs)) := by
      rw [List.append_assoc, List.append_assoc, List.singleton_append]
      refine List.perm_middle.trans ?_
      rw [← List.append_assoc, List.take_append_drop]
    exact e1.trans List.perm_middle.symm
set_option maxHeartbeats 4000000 in
theorem v_law_any_outcome (ds : List D) (Qd : Bool → D → List D → Prop) (Ed : EdT) (hl : ds.length = 3) (h : slaw_any_outcome ds Qd Ed) : m_law_any_outcome slaw_take slaw_mixed (endsD [.M, .S, .S] Qd) (startD ["_law_bag_here", "_law_size", "_law_laps", "_law_found", "_law_turn", "_law_one", "_law_other", "_law_many"] [.M, .S, .S] ds) := by
  obtain ⟨b, n, laps, rfl, hb, h1, h2, h3, h4, hq⟩ := h
  unfold m_law_any_outcome
  lcg_src
  lcg_sub
  rw [rgD_iota]
  lcg_sub
  refine i_mixed hb (by rw [List.length_map, iota_len]; omega) fun m b1 hp hb1 => ?_
  obtain ⟨l, rfl⟩ : ∃ l : List Int, m = l.map D.int := by
    have hm : ∀ x ∈ m, ∃ y, x = D.int y := fun x hx => by
      obtain ⟨y, _, rfl⟩ := List.mem_map.mp (hp.mem_iff.mp hx)
      exact ⟨y, rfl⟩
    clear hp
    induction m with
    | nil => exact ⟨[], rfl⟩
    | cons x m ih =>
      obtain ⟨l, rfl⟩ := ih fun y hy => hm y (List.mem_cons_of_mem _ hy)
      obtain ⟨y, rfl⟩ := hm x (List.mem_cons_self ..)
      exact ⟨y :: l, rfl⟩
  have hl : l.length = n := by have := hp.length_eq; rw [List.length_map, List.length_map, iota_len] at this; exact this
  have hlb : ∀ x ∈ l, x.natAbs ≤ 12 := fun x hx => by
    obtain ⟨y, hy, e⟩ := List.mem_map.mp (hp.mem_iff.mp (List.mem_map.mpr ⟨x, hx, rfl⟩))
    have := mem_iota.mp hy
    cases e
    omega
  have hp0 : (l.map fun x => x % (n : Int)).Perm (iota n) := by
    have e : (l.map fun x => x % (n : Int)) = l := by
      have : ∀ x ∈ l, x % (n : Int) = x := fun x hx => by
        obtain ⟨y, hy, e⟩ := List.mem_map.mp (hp.mem_iff.mp (List.mem_map.mpr ⟨x, hx, rfl⟩))
        have := mem_iota.mp hy
        cases e
        exact Int.emod_eq_of_lt this.1 this.2
      conv => rhs; rw [← List.map_id l]
      exact List.map_congr_left fun x hx => this x hx
    rw [e]
    have h := hp.map unI
    rw [List.map_map, List.map_map] at h
    have i1 : ∀ m : List Int, m.map (unI ∘ D.int) = m := fun m => by
      conv => rhs; rw [← List.map_id m]
      rfl
    rw [i1, i1] at h
    exact h
  have hs0 : l.sum = (iota n).sum := by
    have h := hp.map unI
    rw [List.map_map, List.map_map] at h
    have i1 : ∀ m : List Int, m.map (unI ∘ D.int) = m := fun m => by
      conv => rhs; rw [← List.map_id m]
      rfl
    rw [i1, i1] at h
    exact perm_sum h
  clear hp
  lcg_sub
  have hd : drawn ≤ 12 := by omega
  refine loop_rng drawn (fun i Γ => ∃ (b : D) (o : List Int) (c4 c5 c6 c7 : Sl), Γ = [.io b, .sh (.int n), .sh (.int laps), .ow (.lst (o.map D.int)), c4, c5, c6, c7] ∧ fr c4 = true ∧ fr c5 = true ∧ fr c6 = true ∧ fr c7 = true ∧ BagD b ∧ 0 ≤ i ∧ o.length = n ∧ (o.map fun x => x % (n : Int)).Perm (iota n) ∧ o.sum = (iota n).sum ∧ ∀ x ∈ o, (x.natAbs : Int) ≤ 12 + i * (24 * 10 ^ 45)) ?_ ?_ ?_ _ _ _ (by omega) ⟨_, _, .no, .no, .no, .no, rfl, rfl, rfl, rfl, rfl, hbag, by decide, hl, hp0, hs0, fun x hx => by have := hlb x hx; omega⟩
  · intro i Γ _; exact trivial
  · rintro Γ ⟨b, o, c4, c5, c6, c7, rfl, f4, f5, f6, f7, hb, h0, hlo, hpo, hso, hob⟩
    lcg_sub
    refine hq _ _ (out_perm hpo hso) (fun x hx => ?_) hb
    have h1 := hob x hx
    have h2 : drawn * (24 * 10 ^ 45) ≤ 12 * (24 * 10 ^ 45) := Int.mul_le_mul_of_nonneg_right hd (by decide)
    have h3 : (12 : Int) + 12 * (24 * 10 ^ 45) < 2 ^ 160 := by decide
    omega
  · rintro i Γ N hi ⟨b, o, c4, c5, c6, c7, rfl, f4, f5, f6, f7, hb, h0, hlo, hpo, hso, hob⟩ hN
    lcg_sub
    rename_i one _ ho0 ho1 _ other _ hq0 hq1 _
    refine s_a3 rfl (ixN_pos (by omega) (by rw [List.length_map]; omega)) rfl rfl ?_
    rw [← List.map_set]
    have hlo2 : (o.set one.toNat (ig o one + drawn * n)).length = n := by rw [List.length_set]; exact hlo
    have hdn : drawn * (n : Int) ≤ 12 * 10 ^ 45 := by
      have a1 : drawn * (n : Int) ≤ 10 ^ 45 * n := Int.mul_le_mul_of_nonneg_right (by omega) (by omega)
      have a2 : (10 : Int) ^ 45 * n ≤ 10 ^ 45 * 12 := Int.mul_le_mul_of_nonneg_left (by omega) (by decide)
      omega
    have hdn0 : 0 ≤ drawn * (n : Int) := Int.mul_nonneg hdrawn0 (by omega)
    have hob2 : ∀ x ∈ o.set one.toNat (ig o one + drawn * n), (x.natAbs : Int) ≤ 12 + i * (24 * 10 ^ 45) + 12 * 10 ^ 45 := fun x hx => by
      rcases List.mem_or_eq_of_mem_set hx with h | rfl
      · have := hob x h; omega
      · have := hob _ (ig_mem (l := o) (i := one) ⟨by omega, by omega⟩); omega
    have hpo2 := Out.bump hpo (i := one.toNat) (k := drawn) (by omega)
    have hso2 := sum_set (l := o) (i := one.toNat) (x := ig o one + drawn * n) (by omega)
    rw [Int.toNat_of_nonneg ho0] at hpo2 hso2
    generalize o.set one.toNat (ig o one + drawn * n) = o2 at hlo2 hob2 hpo2 hso2
    have hpo3 := Out.bump hpo2 (i := other.toNat) (k := -drawn) (by omega)
    have hso3 := sum_set (l := o2) (i := other.toNat) (x := ig o2 other - drawn * n) (by omega)
    rw [Int.toNat_of_nonneg hq0] at hpo3 hso3
    rw [show ig o2 other + -drawn * (n : Int) = ig o2 other - drawn * n by rw [Int.neg_mul]; omega] at hpo3
    lcg_sub
    refine s_a3 rfl (ixN_pos (by omega) (by rw [List.length_map]; omega)) rfl rfl ?_
    rw [← List.map_set]
    lcg_sub
    refine hN _ ⟨_, _, _, _, _, _, rfl, rfl, rfl, rfl, rfl, hbag, by omega, by rw [List.length_set]; exact hlo2, hpo3, by omega, fun x hx => ?_⟩
    rw [Int.add_mul, Int.one_mul]
    rcases List.mem_or_eq_of_mem_set hx with h | rfl
    · have := hob2 x h; omega
    · have := hob2 _ (ig_mem (l := o2) (i := other) ⟨by omega, by omega⟩); omega
set_option maxHeartbeats 4000000 in
theorem v_law_counted (ds : List D) (Qd : Bool → D → List D → Prop) (Ed : EdT) (hl : ds.length = 1) (h : slaw_counted ds Qd Ed) : m_law_counted (endsD [.S] Qd) (startD ["_law_thread", "_law_at"] [.S] ds) := by
  obtain ⟨t, rfl, h0, hl, hn, hq⟩ := h
  unfold m_law_counted
  lcg_src
  lcg_sub
  rw [show ((t.length : Int) - 1).toNat = t.length - 1 by omega, rngD_ints]
  refine comp_fn (filG fun x => decide (ig t x < ig t (x - 1))) (by exact trivial) (by rfl) _ _ (fun x hx N hN => ?_) ?_ ?_
  · obtain ⟨i, hi, rfl⟩ := List.mem_map.mp hx
    obtain ⟨j, hj, rfl⟩ := List.mem_map.mp hi
    have hj := List.mem_range.mp hj
    lcg_sub
    by_cases hc : ig t (1 + (j : Int)) < ig t (1 + (j : Int) - 1)
    · refine e_dT hc ?_
      rw [filG_T (decide_eq_true hc)] at hN
      lcg_sub
      exact hN
    · refine e_dF hc ?_
      rw [filG_F (decide_eq_false hc)] at hN
      lcg_sub
      exact hN
  · rw [List.length_map, List.length_map, List.length_range]; simp only [List.length_nil]; omega
  · rw [List.nil_append, filG_all]
    lcg_sub
    rw [cnt_filter1 hn _ (by omega)]
    exact hq
set_option maxHeartbeats 4000000 in
theorem v_law_ended (ds : List D) (Qd : Bool → D → List D → Prop) (Ed : EdT) (hl : ds.length = 1) (h : slaw_ended ds Qd Ed) : m_law_ended (endsD [.S] Qd) (startD ["_law_there", "_law_size", "_law_found", "_law_place", "_law_person"] [.S] ds) := by
  obtain ⟨n, t, rfl, O, h2, hq⟩ := h
  unfold m_law_ended
  lcg_src
  have hl := O.len
  lcg_sub
  refine loop_rng n (fun i Γ => ∃ (k : Nat) (c3 c4 : Sl) (l : List Int), i = k ∧ Γ = [.sh (iL t), .sh (.int t.length), .ow (iL l), c3, c4] ∧ fr c3 = true ∧ fr c4 = true ∧ Scat n t l k) ?_ ?_ ?_ _ _ _ (by omega) ⟨0, _, _, _, rfl, rfl, rfl, rfl, by rw [hl]; exact Scat.zero n t⟩
  · intro i Γ _; exact trivial
  · rintro Γ ⟨k, c3, c4, l, hk, rfl, f3, f4, S⟩
    have hk : k = n := by omega
    subst hk
    rw [S.done O]
    lcg_sub
    exact hq
  · rintro i Γ N hi ⟨k, c3, c4, l, rfl, rfl, f3, f4, S⟩ hN
    have r := O.res (i := k) (by omega)
    have hS := S.len
    have st := S.step O (show k < n by omega)
    rw [← hl] at r st
    have i1 : -(t.length : Int) ≤ k ∧ (k : Int) < t.length := by omega
    lcg_sub
    exact hN _ ⟨k + 1, _, _, _, by omega, rfl, rfl, rfl, by rw [hl] at st ⊢; exact st⟩
set_option maxHeartbeats 4000000 in
theorem v_law_called (ds : List D) (Qd : Bool → D → List D → Prop) (Ed : EdT) (hl : ds.length = 3) (h : slaw_called ds Qd Ed) : m_law_called (endsD [.S, .M, .S] Qd) (startD ["_law_ranks_here", "_law_there", "_law_gap", "_law_size", "_law_first", "_law_second"] [.S, .M, .S] ds) := by
  obtain ⟨r, t, g, rfl, h1, h2, h3, h4, hq⟩ := h
  unfold m_law_called
  lcg_src
  have bd : ∀ x : Int, -(r.length : Int) ≤ x % r.length ∧ x % r.length < r.length := fun x => ⟨by have := Int.emod_nonneg x (show (r.length : Int) ≠ 0 by omega); omega, Int.emod_lt_of_pos x (by omega)⟩
  by_cases hg : (g : Int) < (r.length : Int) - 1
  · have en : nxP t.length g = g + 1 := by unfold nxP; rw [if_pos (by omega)]
    have es : shP t.length g = 0 := by unfold shP; rw [if_pos (by omega)]
    have b1 := bd (ig t (g : Int))
    have b2 := bd (ig t ((g : Int) + 1))
    have ep : passT r t g = decide (ig r (ig t ((g : Int) + 1) % r.length) < ig r (ig t (g : Int) % r.length)) := by
      unfold passT rkP
      rw [en, es, Int.add_zero]; rfl
    lcg_sub
    refine e_dif (fun hc => ?_) (fun hc => ?_)
    · rw [decide_eq_true hc] at ep
      have ec : callT r t g = (t.set g (ig t ((g : Int) + 1))).set (g + 1) (ig t (g : Int)) := by
        unfold callT swapT
        rw [if_pos ep, en, es, Int.add_zero, Int.sub_zero]; rfl
      rw [ep, ec] at hq
      lcg_sub
      exact hq
    · rw [decide_eq_false hc] at ep
      have ec : callT r t g = t := by
        unfold callT
        rw [if_neg (by rw [ep]; exact Bool.false_ne_true)]
      lcg_sub
      rw [ep, ec] at hq
      exact hq
  · have hg2 : g + 1 = r.length := by omega
    have en : nxP t.length g = 0 := by unfold nxP; rw [if_neg (by omega)]
    have es : shP t.length g = r.length := by unfold shP; rw [if_neg (by omega), h3]
    have eg : (r.length : Int) - 1 = g := by omega
    have b1 := bd (ig t (g : Int))
    have b2 := bd (ig t 0 + r.length)
    have ep : passT r t g = decide (ig r ((ig t 0 + r.length) % r.length) < ig r (ig t (g : Int) % r.length)) := by
      unfold passT rkP
      rw [en, es]; rfl
    have i1 : -(t.length : Int) ≤ (r.length : Int) - 1 ∧ (r.length : Int) - 1 < t.length := by omega
    rw [← eg] at b1 ep
    lcg_sub
    refine e_dif (fun hc => ?_) (fun hc => ?_)
    · rw [decide_eq_true hc] at ep
      have ec : callT r t g = (t.set g (ig t 0 + r.length)).set 0 (ig t ((r.length : Int) - 1) - r.length) := by
        unfold callT swapT
        rw [if_pos ep, en, es, eg]; rfl
      rw [ep, ec] at hq
      have et : ((r.length : Int) - 1).toNat = g := by omega
      rw [← et] at hq
      lcg_sub
      exact hq
    · rw [decide_eq_false hc] at ep
      have ec : callT r t g = t := by
        unfold callT
        rw [if_neg (by rw [ep]; exact Bool.false_ne_true)]
      rw [ep, ec] at hq
      lcg_sub
      exact hq
set_option maxHeartbeats 4000000 in
theorem v_law_standing (ds : List D) (Qd : Bool → D → List D → Prop) (Ed : EdT) (hl : ds.length = 1) (h : slaw_standing ds Qd Ed) : m_law_standing (endsD [.S] Qd) (startD ["_law_size"] [.S] ds) := by
  obtain ⟨n, rfl, h1, hq⟩ := h
  unfold m_law_standing
  lcg_src
  lcg_sub
  rw [rgD_iota]
  exact hq
set_option maxHeartbeats 4000000 in
theorem v_law_run (ds : List D) (Qd : Bool → D → List D → Prop) (Ed : EdT) (hl : ds.length = 2) (h : slaw_run ds Qd Ed) : m_law_run slaw_called slaw_standing (endsD [.S, .S] Qd) (startD ["_law_ranks_here", "_law_schedule_here", "_law_there", "_law_found", "_law_at", "_law_gap"] [.S, .S] ds) := by
  obtain ⟨n, r, gs, rfl, hr, h1, h2, hs, hl2, hq⟩ := h
  unfold m_law_run
  lcg_src
  lcg_sub
  refine loop_enum (fun i xs Γ => ∃ (t acc gs' : List Int) (c4 c5 : Sl), xs = gs'.map D.int ∧ Γ = [.sh (iL r), .sh (iL gs), .ow (iL t), .ow (iL acc), c4, c5] ∧ fr c4 = true ∧ fr c5 = true ∧ t.length = n ∧ Sch n gs' ∧ runT r gs' t = runT r gs (iota n) ∧ acc ++ passed r gs' t i = passed r gs (iota n) 0 ∧ acc.length + gs'.length ≤ 1000) ?_ ?_ ?_ _ _ _ ⟨iota n, [], gs, _, _, rfl, by rw [hr]; rfl, rfl, rfl, iota_len n, hs, rfl, rfl, by simpa using hl2⟩
  · intro i xs Γ _; first | exact trivial | (rename_i hSRC; revert hSRC; simp only [forall_exists_index, and_imp]; intros; subst_vars; rfl)
  · rintro i Γ ⟨t, acc, gs', c4, c5, hx, rfl, f4, f5, ht, hs', h1, h2, h3⟩
    have e : gs' = [] := by cases gs' with | nil => rfl | cons _ _ => cases hx
    subst e
    have h2 : acc = passed r gs (iota n) 0 := by rw [← h2]; simp [passed]
    have h1 : t = runT r gs (iota n) := h1
    lcg_sub
    rw [h1, h2]
    exact hq
  · rintro i x xs Γ N ⟨t, acc, gs', c4, c5, hx, rfl, f4, f5, ht, hs', h1, h2, h3⟩ hN
    cases gs' with
    | nil => cases hx
    | cons g gs' =>
      injection hx with hx1 hx2
      subst hx1 hx2
      obtain ⟨g0, g1⟩ := hs'.mem g (List.mem_cons_self ..)
      obtain ⟨k, rfl⟩ := Int.eq_ofNat_of_zero_le g0
      have hs2 : Sch n gs' := ⟨fun x hx => hs'.mem x (List.mem_cons_of_mem _ hx)⟩
      have e1 : runT r (((k : Nat) : Int) :: gs') t = runT r gs' (callT r t k) := rfl
      have e2 : passed r (((k : Nat) : Int) :: gs') t i = if passT r t k = true then ((i : Nat) : Int) :: passed r gs' (callT r t k) (i + 1) else passed r gs' (callT r t k) (i + 1) := rfl
      rw [List.length_cons] at h3
      lcg_sub
      refine i_called (by omega) (by omega) (by omega) (by omega) ?_
      lcg_sub
      refine e_ite (fun hp => ?_) (fun hp => ?_)
      · rw [hp, if_pos rfl] at e2
        lcg_sub
        exact hN _ ⟨_, acc ++ [(i : Int)], gs', _, _, rfl, rfl, rfl, rfl, by rw [callT_len, ht], hs2, by rw [← h1, e1], by rw [← h2, e2]; simp, by rw [List.length_append, List.length_singleton]; omega⟩
      · rw [hp, if_neg Bool.false_ne_true] at e2
        lcg_sub
        exact hN _ ⟨_, acc, gs', _, _, rfl, rfl, rfl, rfl, by rw [callT_len, ht], hs2, by rw [← h1, e1], by rw [← h2, e2]; simp, by omega⟩
set_option maxHeartbeats 4000000 in
theorem v_law_run_of (ds : List D) (Qd : Bool → D → List D → Prop) (Ed : EdT) (hl : ds.length = 2) (h : slaw_run_of ds Qd Ed) : m_law_run_of (endsD [.S, .S] Qd) (startD ["_law_there", "_law_schedule_here", "_law_size", "_law_found", "_law_at", "_law_gap", "_law_shift", "_law_first", "_law_second"] [.S, .S] ds) := by
  obtain ⟨n, t0, gs, rfl, O0, h1, h2, hs, hgl, hq⟩ := h
  unfold m_law_run_of
  lcg_src
  have hl0 := O0.len
  lcg_sub
  refine loop_enum (fun i xs Γ => ∃ (t acc : List Int) (c4 c5 c6 c7 c8 : Sl), xs = (gs.drop i).map D.int ∧ i ≤ gs.length ∧ Γ = [.ow (iL t), .sh (iL gs), .sh (.int n), .ow (iL acc), c4, c5, c6, c7, c8] ∧ fr c4 = true ∧ fr c5 = true ∧ fr c6 = true ∧ fr c7 = true ∧ fr c8 = true ∧ Out n t ∧ runE (gs.drop i) t = runE gs t0 ∧ acc ++ usefulE (gs.drop i) t i = usefulE gs t0 0 ∧ acc.length ≤ i) ?_ ?_ ?_ _ 0 _ ⟨t0, [], _, _, _, _, _, rfl, Nat.zero_le _, by rw [hl0]; rfl, rfl, rfl, rfl, rfl, rfl, O0, rfl, rfl, Nat.le_refl _⟩
  · intro i xs Γ _; exact trivial
  · rintro i Γ ⟨t, acc, c4, c5, c6, c7, c8, hx, hi, rfl, f4, f5, f6, f7, f8, O, hr, hu, hal⟩
    have hk : i = gs.length := by
      have := congrArg List.length hx
      rw [List.length_map, List.length_drop, List.length_nil] at this
      omega
    subst hk
    rw [List.drop_length] at hr hu
    have hu2 : acc = usefulE gs t0 0 := by rw [← hu]; simp [usefulE]
    have hr2 : t = runE gs t0 := hr
    clear hu hr
    subst hr2 hu2
    lcg_sub
    exact hq
  · rintro i x xs Γ N ⟨t, acc, c4, c5, c6, c7, c8, hx, hi, rfl, f4, f5, f6, f7, f8, O, hr, hu, hal⟩ hN
    obtain ⟨hin, rfl, hxs, hdr, hmem⟩ := drop_getR hx
    obtain ⟨g0, g1⟩ := hs.mem _ hmem
    rw [hdr] at hr hu
    generalize ig gs (i : Int) = g at g0 g1 hr hu
    obtain ⟨k, rfl⟩ := Int.eq_ofNat_of_zero_le g0
    have hk : k < n := by omega
    have hl := O.len
    have hnx := nxP_lt (n := n) (g := k) (by omega)
    have e2 : usefulE (((k : Nat) : Int) :: gs.drop (i + 1)) t i = if passE t k = true then ((i : Nat) : Int) :: usefulE (gs.drop (i + 1)) (callE t k) (i + 1) else usefulE (gs.drop (i + 1)) (callE t k) (i + 1) := rfl
    have i1 : -(t.length : Int) ≤ (nxP n k : Nat) ∧ ((nxP n k : Nat) : Int) < t.length := by omega
    have hpe := passE_lt O h1 hk
    lcg_sub
    rw [shP_int hk, nxP_mod hk]
    lcg_sub
    by_cases hp : ig t (k : Int) < ig t (nxP n k : Nat) + shP n k
    · rw [decide_eq_true hp] at hpe
      refine e_dT hp ?_
      have ec : callE t k = swapT t k := by unfold callE; rw [if_pos hpe]
      rw [e2, if_pos hpe, ec] at hu
      have hr : runE (gs.drop (i + 1)) (callE t k) = runE gs t0 := hr
      rw [ec] at hr
      have Os := O.swap h1 hk
      unfold swapT at hu hr Os
      rw [hl] at hu hr Os
      lcg_sub
      rw [nxP_mod hk]
      lcg_sub
      exact hN _ ⟨_, acc ++ [(i : Int)], _, _, _, _, _, hxs, by omega, rfl, rfl, rfl, rfl, rfl, rfl, Os, hr, by rw [← hu, List.append_assoc]; rfl, by rw [List.length_append, List.length_singleton]; omega⟩
    · rw [decide_eq_false hp] at hpe
      refine e_dF hp ?_
      have ec : callE t k = t := by unfold callE; rw [if_neg (by rw [hpe]; exact Bool.false_ne_true)]
      rw [e2, if_neg (by rw [hpe]; exact Bool.false_ne_true), ec] at hu
      have hr : runE (gs.drop (i + 1)) (callE t k) = runE gs t0 := hr
      rw [ec] at hr
      lcg_sub
      exact hN _ ⟨_, acc, _, _, _, _, _, hxs, by omega, rfl, rfl, rfl, rfl, rfl, rfl, O, hr, hu, by omega⟩
set_option maxHeartbeats 4000000 in
theorem v_law_endless (ds : List D) (Qd : Bool → D → List D → Prop) (Ed : EdT) (hl : ds.length = 2) (h : slaw_endless ds Qd Ed) : m_law_endless slaw_run_of slaw_standing (endsD [.S, .S] Qd) (startD ["_law_size", "_law_schedule_here"] [.S, .S] ds) := by
  obtain ⟨n, gs, rfl, h1, h2, hs, hl, hq⟩ := h
  unfold m_law_endless
  lcg_src
  lcg_sub
  refine i_runof (out_iota n) h1 h2 hs hl ?_
  lcg_sub
  exact hq
set_option maxHeartbeats 4000000 in
theorem v_law_drawn_thread (ds : List D) (Qd : Bool → D → List D → Prop) (Ed : EdT) (hl : ds.length = 3) (h : slaw_drawn_thread ds Qd Ed) : m_law_drawn_thread slaw_take (endsD [.M, .S, .S] Qd) (startD ["_law_bag_here", "_law_size", "_law_schedule_here", "_law_found", "_law_gap", "_law_step"] [.M, .S, .S] ds) := by
  obtain ⟨n, b, gs, rfl, hb, h1, h2, hl, hq⟩ := h
  unfold m_law_drawn_thread
  lcg_src
  lcg_sub
  obtain ⟨e, he⟩ : ∃ e : Int, e = drawn - n := ⟨_, rfl⟩
  rw [← List.map_reverse, ← he]
  refine loop_ints (fun xs Γ => ∃ (b' : D) (dn t : List Int) (c4 c5 : Sl), BagD b' ∧ gs = xs.reverse ++ dn ∧ t ∈ allT n e dn ∧ Γ = [.io b', .sh (.int n), .sh (iL gs), .ow (iL t), c4, c5] ∧ fr c4 = true ∧ fr c5 = true) ?_ ?_ ?_ _ _ ⟨_, [], [e], .no, .no, hbag, by rw [List.reverse_reverse, List.append_nil], List.mem_singleton.mpr rfl, rfl, rfl, rfl⟩
  · intro xs Γ _; exact trivial
  · rintro Γ ⟨b', dn, t, c4, c5, hb', hg, ht, rfl, f4, f5⟩
    have hg : gs = dn := hg
    subst hg
    lcg_sub
    exact hq e t b' (by omega) (by omega) ht hb'
  · rintro x xs Γ M ⟨b', dn, t, c4, c5, hb', hg, ht, rfl, f4, f5⟩ hM
    have htl := allT_len ht
    have hdl : dn.length ≤ 1000 := by rw [hg, List.length_append] at hl; omega
    have htl2 : (t.map D.int).length < 100000 := by rw [List.length_map]; omega
    have hg2 : gs = xs.reverse ++ (x :: dn) := by rw [hg, List.reverse_cons, List.append_assoc]; rfl
    have hmem : ∀ s, s ∈ stepsT n x (ig t 0) → s :: t ∈ allT n e (x :: dn) := fun s hs => List.mem_flatMap.mpr ⟨t, ht, List.mem_map.mpr ⟨s, hs, rfl⟩⟩
    lcg_sub
    refine i_ix (atI_ints (l := [1, -1]) (by simp only [List.length_cons, List.length_nil]; omega)) ?_
    have hs := ig_mem (l := [1, -1]) (i := drawn) (by simp only [List.length_cons, List.length_nil]; omega)
    have hs : ig [1, -1] drawn = 1 ∨ ig [1, -1] drawn = -1 := by simpa using hs
    generalize ig [1, -1] drawn = s at hs ⊢
    lcg_sub
    refine hM _ ⟨_, x :: dn, (ig t 0 + s * (if decide ((ig t 0 - x) % (n : Int) = 0) = true then 1 else 0)) :: t, .sh _, .sh _, hbag, hg2, hmem _ ?_, rfl, rfl, rfl⟩
    unfold stepsT
    by_cases hc : (ig t 0 - x) % (n : Int) = 0
    · rw [if_pos hc, if_pos (decide_eq_true hc)]
      rcases hs with rfl | rfl
      · simp
      · simp; omega
    · rw [if_neg hc, if_neg (by rw [decide_eq_false hc]; exact Bool.false_ne_true)]
      simp
set_option maxHeartbeats 8000000 in
theorem v_law_schedule (ds : List D) (Qd : Bool → D → List D → Prop) (Ed : EdT) (hl : ds.length = 3) (h : slaw_schedule ds Qd Ed) : m_law_schedule slaw_take (endsD [.M, .S, .S] Qd) (startD ["_law_bag_here", "_law_size", "_law_most", "_law_few", "_law_found", "_law_k", "_law_many", "_law_way", "_law_begin", "_law_gap"] [.M, .S, .S] ds) := by
  obtain ⟨b, n, m, rfl, hb, n1, n2, m1, m2, hq⟩ := h
  unfold m_law_schedule
  lcg_src
  lcg_sub
  rename_i d1 _ _ _ _ d2 _ _ _ _ d3 _ _ _ _ d4 _ _ _ _
  rename Int => d5
  refine loop_rng d1 (fun i Γ => ∃ (b : D) (c5 c9 : Sl) (l : List Int), Γ = [.io b, .sh (.int n), .sh (.int m), .sh (.lst [.int d4, .int d5]), .ow (.lst (l.map D.int)), c5, .sh (.int d1), .sh (.int d2), .sh (.int d3), c9] ∧ fr c5 = true ∧ fr c9 = true ∧ BagD b ∧ (l.length : Int) = i ∧ 0 ≤ i ∧ Sch n l) ?_ ?_ ?_ _ _ _ (by omega) ⟨bag, .no, .no, [], rfl, rfl, rfl, hbag, rfl, by omega, ⟨by simp⟩⟩
  · intro i Γ _; exact trivial
  · rintro Γ ⟨b, c5, c9, l, rfl, f5, f9, hb, hl, h0, hs⟩
    lcg_sub
    exact hq _ _ (by omega) hs hb
  · rintro i Γ N hi ⟨b, c5, c9, l, rfl, f5, f9, hb, hl, h0, hs⟩ hN
    have hll : (l.map D.int).length < 100000 := by rw [List.length_map]; omega
    have fin : ∀ (b : D) (g : Int), BagD b → 0 ≤ g → g < n → N [.io b, .sh (.int n), .sh (.int m), .sh (.lst [.int d4, .int d5]), .ow (.lst ((l ++ [g]).map D.int)), .sh (.int i), .sh (.int d1), .sh (.int d2), .sh (.int d3), .sh (.int g)] := fun b g hb g0 g1 => hN _ ⟨b, _, _, l ++ [g], rfl, rfl, rfl, hb, by rw [List.length_append, List.length_singleton]; omega, by omega, ⟨fun x hx => (List.mem_append.mp hx).elim (hs.mem x) fun hx => by rw [List.mem_singleton.mp hx]; exact ⟨g0, g1⟩⟩⟩
    have hm : i % 2 = 0 ∨ i % 2 = 1 := by omega
    have h2 : min d2 3 = 0 ∨ min d2 3 = 1 ∨ min d2 3 = 2 ∨ min d2 3 = 3 := by omega
    have md : ∀ x : Int, 0 ≤ x % n ∧ x % n < n := fun x => ⟨Int.emod_nonneg _ (by omega), Int.emod_lt_of_pos _ (by omega)⟩
    lcg_sub
    refine i_ix (atI_ints (l := [d4, d5]) (by simp only [List.length_cons, List.length_nil]; omega)) ?_
    have q5 := ig_mem (l := [d4, d5]) (i := i % 2) (by simp only [List.length_cons, List.length_nil]; omega)
    have q5 : 0 ≤ ig [d4, d5] (i % 2) ∧ ig [d4, d5] (i % 2) < n := by
      simp only [List.mem_cons, List.not_mem_nil, or_false] at q5
      rcases q5 with e | e <;> rw [e] <;> omega
    generalize ig [d4, d5] (i % 2) = e5 at q5
    lcg_sub
    refine i_ix (atI_ints (l := [drawn, e5, (d3 + i) % n, (d3 - i) % n]) (by simp only [List.length_cons, List.length_nil]; omega)) ?_
    have q6 := ig_mem (l := [drawn, e5, (d3 + i) % n, (d3 - i) % n]) (i := min d2 3) (by simp only [List.length_cons, List.length_nil]; omega)
    have q6 : 0 ≤ ig [drawn, e5, (d3 + i) % n, (d3 - i) % n] (min d2 3) ∧ ig [drawn, e5, (d3 + i) % n, (d3 - i) % n] (min d2 3) < n := by
      have := md (d3 + i)
      have := md (d3 - i)
      simp only [List.mem_cons, List.not_mem_nil, or_false] at q6
      rcases q6 with e | e | e | e <;> rw [e] <;> omega
    generalize ig [drawn, e5, (d3 + i) % n, (d3 - i) % n] (min d2 3) = e6 at q6
    have hmx : 0 < max 1 (n - 1) ∧ max 1 (n - 1) < 2 ^ 64 := by omega
    have hw : d2 = 4 ∨ d2 = 5 ∨ (¬ d2 = 4 ∧ ¬ d2 = 5) := by omega
    rcases hw with rfl | rfl | ⟨w4, w5⟩
    · lcg_sub
      exact fin _ _ hbag (md _).1 (md _).2
    · lcg_sub
      exact fin _ _ hbag (by omega) (by omega)
    · lcg_sub
      exact fin _ _ hbag q6.1 q6.2
set_option maxHeartbeats 8000000 in
theorem v_law_ranks (ds : List D) (Qd : Bool → D → List D → Prop) (Ed : EdT) (hl : ds.length = 2) (h : slaw_ranks ds Qd Ed) : m_law_ranks slaw_take (endsD [.M, .S] Qd) (startD ["_law_bag_here", "_law_size", "_law_place", "_law_way", "_law_found", "_law_spot", "_law_few", "_law_great", "_law_rank"] [.M, .S] ds) := by
  obtain ⟨b, n, rfl, hb, n1, n2, hq⟩ := h
  unfold m_law_ranks
  lcg_src
  lcg_sub
  refine loop_rng n (fun i Γ => ∃ b c2 c5 c6 c7 c8 l, Γ = [.io b, .sh (.int n), c2, .sh (.int drawn), .ow (.lst (l.map D.int)), c5, c6, c7, c8] ∧ fr c2 = true ∧ fr c5 = true ∧ fr c6 = true ∧ fr c7 = true ∧ okOwn [c8] [0] = true ∧ BagD b ∧ (l.length : Int) = i ∧ 0 ≤ i ∧ (∀ x ∈ l, rkOk x)) ?_ ?_ ?_ _ _ _ (by omega) ⟨_, _, _, _, _, _, [], rfl, rfl, rfl, rfl, rfl, rfl, hbag, rfl, by omega, by simp⟩
  · intro i Γ _; exact trivial
  · rintro Γ ⟨b, c2, c5, c6, c7, c8, l, rfl, f2, f5, f6, f7, f8, hb, hl, h0, hx⟩
    dsimp only
    refine cut (fun Γ => ∃ (b : D) (c8 : Sl) (l : List Int), Γ = [.io b, .sh (.int n), c2, .sh (.int drawn), .ow (.lst (l.map D.int)), c5, c6, c7, c8] ∧ BagD b ∧ (l.length : Int) = n ∧ (∀ x ∈ l, rkOk x)) (fun M hM => ?_) ?_
    · have stay : ∀ b, BagD b → M [.io b, .sh (.int n), c2, .sh (.int drawn), .ow (.lst (l.map D.int)), c5, c6, c7, c8] := fun b hb => hM _ ⟨b, c8, l, rfl, hb, hl, hx⟩
      by_cases hw : drawn = 0
      · have hw' := hw
        lcg_sub
        refine e_dif (fun hc => ?_) (fun hc => ?_)
        · lcg_sub
          refine comp_fn (mapG fun r => if decide (0 < r) = true then 1 else 0) (by rfl) (by exact f8) _ _ (fun x hx N hN => ?_) ?_ ?_
          · obtain ⟨i, _, rfl⟩ := List.mem_map.mp hx
            lcg_sub
            exact hN
          · rw [List.length_map]; simp only [List.length_nil]; omega
          · rw [List.nil_append, mapG_all]
            lcg_sub
            refine hM _ ⟨_, _, _, rfl, hbag, by rw [List.length_map]; exact hl, fun x hx => ?_⟩
            obtain ⟨r, _, rfl⟩ := List.mem_map.mp hx
            show rkOk (if decide (0 < r) = true then (1 : Int) else 0)
            split <;> decide
        · lcg_sub
          exact stay _ hbag
      · lcg_sub
        exact stay _ hb
    · rintro _ ⟨b, c8, l, rfl, hb, hl, hx⟩
      by_cases hw : 1 < drawn
      · lcg_sub
        · rw [cutD_from hdrawn0 (by rw [List.length_map]; omega), cutD_to hdrawn0 (by rw [List.length_map]; omega), ← List.map_drop, ← List.map_take, ← List.map_append]
          exact hq _ _ (by rw [List.length_append, List.length_drop, List.length_take]; omega) (fun x hm => hx x ((List.mem_append.mp hm).elim List.mem_of_mem_drop List.mem_of_mem_take)) hbag
        · rw [cutD_from hdrawn0 (by rw [List.length_map]; omega), cutD_to hdrawn0 (by rw [List.length_map]; omega), List.length_drop, List.length_take, List.length_map]
          omega
      · lcg_sub
        exact hq _ _ hl hx hb
  · rintro i Γ N hi ⟨b, c2, c5, c6, c7, c8, l, rfl, f2, f5, f6, f7, f8, hb, hl, h0, hx⟩ hN
    have hw := hdrawn0
    have hw1 := hdrawn1
    lcg_sub
    rename_i way _ _ _ _ few _ f0 f1 _
    refine i_ix (atI_ints (l := [few, few * 3 - 4, drawn - 5 * 10 ^ 11, 0 - i, i + few, 10 ^ 39 - i * few]) (by simp only [List.length_cons, List.length_nil]; omega)) ?_
    have hm := ig_mem (l := [few, few * 3 - 4, drawn - 5 * 10 ^ 11, 0 - i, i + few, 10 ^ 39 - i * few]) (i := way) (by simp only [List.length_cons, List.length_nil]; omega)
    have h0' : 0 ≤ i * few := Int.mul_nonneg h0 f0
    have h1' : i * few ≤ 100 * 3 := by
      have := Int.mul_le_mul (show i ≤ 100 by omega) (show few ≤ 3 by omega) f0 (by decide)
      omega
    have hb : rkOk (ig [few, few * 3 - 4, drawn - 5 * 10 ^ 11, 0 - i, i + few, 10 ^ 39 - i * few] way) := by
      simp only [List.mem_cons, List.not_mem_nil, or_false] at hm
      rcases hm with e | e | e | e | e | e <;> rw [e] <;> constructor <;> omega
    generalize ig [few, few * 3 - 4, drawn - 5 * 10 ^ 11, 0 - i, i + few, 10 ^ 39 - i * few] way = g at hb
    lcg_sub
    refine hN _ ⟨_, _, _, _, _, _, l ++ [g], rfl, rfl, f5, rfl, rfl, f8, hbag, by rw [List.length_append, List.length_singleton]; omega, by omega, fun x hm => ?_⟩
    rcases List.mem_append.mp hm with hm | hm
    · exact hx x hm
    · rw [List.mem_singleton] at hm; rw [hm]; exact hb
set_option maxHeartbeats 4000000 in
theorem v_law_some_size (ds : List D) (Qd : Bool → D → List D → Prop) (Ed : EdT) (hl : ds.length = 2) (h : slaw_some_size ds Qd Ed) : m_law_some_size slaw_take (endsD [.M, .S] Qd) (startD ["_law_bag_here", "_law_most"] [.M, .S] ds) := by
  obtain ⟨b, m, rfl, hb, m1, m2, hq⟩ := h
  unfold m_law_some_size
  lcg_src
  lcg_sub
  have hd : drawn = 0 ∨ drawn = 1 := by omega
  rcases hd with rfl | rfl
  · lcg_sub
    exact hq _ _ (by omega) (by omega) hbag
  · lcg_sub
    exact hq _ _ (by omega) (by omega) hbag
set_option maxHeartbeats 4000000 in
theorem v_law_bag (ds : List D) (Qd : Bool → D → List D → Prop) (Ed : EdT) (hl : ds.length = 1) (h : slaw_bag ds Qd Ed) : m_law_bag (endsD [.S] Qd) (startD ["_law_script", "_law_cell"] [.S] ds) := by
  obtain ⟨ns, rfl, hq⟩ := h
  unfold m_law_bag
  lcg_src
  lcg_sub
  refine comp_inv (fun xs acc Γ => Γ = [.sh (.scr (ns.map D.int)), .no] ∧ (∃ ys : List Int, xs = ys.map D.int) ∧ (∃ cs : List Int, acc = cs.map D.int ∧ (∀ c ∈ cs, 0 ≤ c)) ∧ acc.length + xs.length ≤ 63) ?_ ?_ ?_ _ _ _ ⟨rfl, ⟨ns.take 63, ?_⟩, ⟨[], rfl, by simp⟩, ?_⟩
  · rintro xs acc Γ ⟨rfl, -⟩
    exact ⟨trivial, rfl⟩
  · rintro acc Γ ⟨rfl, -, ⟨cs, rfl, hc⟩, -⟩
    lcg_sub
    exact hq _ ⟨0, 1234567891, 0, cs, rfl, by decide, by decide, by decide, by decide, hc⟩
  · rintro x xs acc Γ N ⟨rfl, ⟨ys, hx⟩, ⟨cs, rfl, hc⟩, hlen⟩ hN
    cases ys with
    | nil => cases hx
    | cons y ys =>
      cases hx
      rw [List.length_cons] at hlen
      lcg_sub
      refine hN _ _ ⟨rfl, ⟨ys, rfl⟩, ⟨cs ++ [(y.natAbs : Int)], by rw [List.map_append]; rfl, fun c hm => ?_⟩, ?_⟩
      · rcases List.mem_append.mp hm with hm | hm
        · exact hc c hm
        · rw [List.mem_singleton] at hm; omega
      · simp only [List.length_append, List.length_map, List.length_singleton] at hlen ⊢; omega
  · simp [DL.cutD, HT.sIx, List.map_take, List.length_map, List.take_eq_take_iff]
  · simp [DL.cutD, HT.sIx]
    try omega
set_option maxHeartbeats 8000000 in
theorem v_law {C_Ring : Addr} (ds : List D) (Qd : Bool → D → List D → Prop) (Ed : EdT) (hl : ds.length = 1) (h : slaw ds Qd Ed) : m_law C_Ring slaw_carried (sdecide C_Ring) (sRing___init__ C_Ring) (sis_reason C_Ring) slaw_any_outcome slaw_counted slaw_ended slaw_run slaw_take slaw_endless scheapest scost sis_thread slaw_drawn_thread scosts slaw_schedule slaw_ranks slaw_some_size slaw_bag (endsD [.S] Qd) (startD ["_law_script", "_law_bag_here", "_law_go", "_law_size", "_law_end", "_law_prices", "_law_threads", "_law_thread", "_law_k", "_law_odd", "_law_ranks_here", "_law_schedule_here", "_law_begin", "_law_price", "_law_there", "_law_indexes", "_law_some", "_law_outcome", "_law_gap"] [.S] ds) := by
  obtain ⟨ns, rfl, hq⟩ := h
  unfold m_law
  lcg_src
  lcg_sub
  refine loop_rng 2 (fun i Γ => ∃ b c2 c3 c4 c5 c6 c7 c8 c9 c10 c11 c12 c13 c14 c15 c16 c17, Γ = [.sh (.scr (ns.map D.int)), .ow b, c2, c3, c4, c5, c6, c7, c8, c9, c10, c11, c12, c13, c14, c15, c16, c17, .no] ∧ (fr c2 = true ∧ fr c3 = true ∧ fr c4 = true ∧ fr c5 = true ∧ fr c6 = true ∧ fr c7 = true ∧ fr c8 = true ∧ fr c9 = true ∧ fr c10 = true ∧ fr c11 = true ∧ fr c12 = true ∧ fr c13 = true ∧ fr c14 = true ∧ fr c15 = true ∧ fr c16 = true ∧ fr c17 = true) ∧ BagD b) ?_ ?_ ?_ _ _ _ (by decide) ⟨_, _, _, _, _, _, _, _, _, _, _, _, _, _, _, _, _, rfl, ⟨rfl, rfl, rfl, rfl, rfl, rfl, rfl, rfl, rfl, rfl, rfl, rfl, rfl, rfl, rfl, rfl⟩, hbag⟩
  · intro i Γ _; exact trivial
  · rintro Γ ⟨b, c2, c3, c4, c5, c6, c7, c8, c9, c10, c11, c12, c13, c14, c15, c16, c17, rfl, -⟩
    lcg_sub
    exact hq
  · rintro i Γ N hi ⟨b, c2, c3, c4, c5, c6, c7, c8, c9, c10, c11, c12, c13, c14, c15, c16, c17, rfl, ⟨f2, f3, f4, f5, f6, f7, f8, f9, f10, f11, f12, f13, f14, f15, f16, f17⟩, hb⟩ hN
    lcg_sub
    obtain ⟨n, rfl⟩ := Int.eq_ofNat_of_zero_le (show 0 ≤ size by omega)
    have h2 : 2 ≤ n := by omega
    have h12 : n ≤ 12 := by omega
    have hgl : gaps.length ≤ 60 := by omega
    have hrl : ranks.length = n := by omega
    obtain ⟨e, he⟩ : ∃ e : Int, e = drawn - n := ⟨_, rfl⟩
    rw [← he]
    have e0 : -12 ≤ e ∧ e ≤ 24 := by omega
    refine i_costs h2 (by omega) fun L hL => ?_
    unfold prL
    have hL0 := hL.ne
    have hL1 := hL.le
    have hL2 : 0 < ((L.map fun p => D.tup [D.int p.1, D.int p.2]).length : Int) ∧ ((L.map fun p => D.tup [D.int p.1, D.int p.2]).length : Int) < 2 ^ 256 := by rw [List.length_map]; omega
    lcg_sub
    refine i_ixM hdrawn0 hdrawn1 fun d hd => ?_
    obtain ⟨⟨bg, pr⟩, hbp, rfl⟩ := List.mem_map.mp hd
    have hpr := (hL.mem bg pr).mp hbp
    have hnear := prP_near e gaps bg pr hpr
    dsimp only
    lcg_sub
    refine i_drawnt (by assumption) h2 h12 (by omega) fun e1 t1 b1 he0 he1 ht1 hb1 => ?_
    lcg_sub
    refine i_cheapest h2 (by omega) (fun z => by rw [z] at hpr; cases hpr) fun p2 t2 hp2 ht2 => ?_
    rw [hpr] at hp2
    injection hp2 with hp2
    subst hp2
    have T1 := Thr.all ht1
    have T2 := Thr.ch ht2 hpr
    have ht2m := ht2.mem
    have K : ∀ (e' : Int) (t : List Int), -12 ≤ e' → e' ≤ 24 → t ∈ allT n e' gaps → t.length = gaps.length + 1 ∧ thN n gaps t = true ∧ (∀ x ∈ t, x.natAbs < 2 ^ 160) := fun e' t k1 k2 ht => ⟨allT_len ht, allT_thr ht, fun x hx => by
      have := allT_near ht x hx
      exact Nat.lt_of_le_of_lt (show x.natAbs ≤ 1000 by omega) (by decide)⟩
    obtain ⟨k1l, k1t, k1b⟩ := K e1 t1 he0 he1 ht1
    obtain ⟨k2l, k2t, k2b⟩ := K e t2 e0.1 e0.2 ht2m
    lcg_sub
    refine loop_inv (fun xs Γ => ∃ (c7 : Sl), (∀ x ∈ xs, ∃ (t : List Int) (e' : Int), x = iL t ∧ -12 ≤ e' ∧ e' ≤ 24 ∧ t ∈ allT n e' gaps) ∧ Γ = [.sh (.scr (ns.map D.int)), .ow b1, .sh (.int i), .sh (.int n), .sh (.int e), .sh (.lst (L.map fun p => D.tup [D.int p.1, D.int p.2])), .sh (.lst [iL t1, iL t2]), c7, c8, c9, .sh (iL ranks), .sh (iL gaps), .sh (.int bg), .sh (.int pr), c14, c15, c16, c17, .no] ∧ fr c7 = true) ?_ ?_ ?_ _ _ ⟨c7, ?_, rfl, f7⟩
    · intro xs Γ _; exact trivial
    · rintro Γ ⟨c7, -, rfl, f7⟩
      lcg_sub
      refine i_cost (by omega) (by omega) (thN_near k2l k2t) ?_
      have hc2 : cntN t2 (t2.length - 1) = pr := by rw [k2l, Nat.add_sub_cancel]; exact ht2.cnt
      rw [hc2]
      lcg_sub
      refine i_cheapest h2 (by omega) (fun z => by rw [z] at hpr; cases hpr) fun p3 t3 hp3 ht3 => ?_
      rw [hpr] at hp3
      injection hp3 with hp3
      subst hp3
      have k3l := ht3.len
      have k3t := ht3.thr
      lcg_sub
      refine i_lcounted (by omega) (by omega) (thN_near k3l k3t) ?_
      have hc3 : cntN t3 (t3.length - 1) = pr := by rw [k3l, Nat.add_sub_cancel]; exact ht3.cnt
      rw [hc3]
      lcg_sub
      refine i_endless h2 (by omega) hgaps (by omega) ?_
      lcg_sub
      refine loop_rng 6 (fun k Γ => ∃ (b : D) (c7 c8 c16 c17 : Sl), 0 ≤ k ∧ Γ = [.sh (.scr (ns.map D.int)), .ow b, .sh (.int i), .sh (.int n), .sh (.int e), .sh (.lst (L.map fun p => D.tup [D.int p.1, D.int p.2])), .sh (.lst [iL t1, iL t2]), c7, c8, c9, .sh (iL ranks), .sh (iL gaps), .sh (.int bg), .sh (.int pr), .sh (iL (runE gaps (iota n))), .sh (iL (usefulE gaps (iota n) 0)), c16, c17, .no] ∧ (fr c7 = true ∧ fr c8 = true ∧ fr c16 = true ∧ fr c17 = true) ∧ BagD b) ?_ ?_ ?_ _ _ _ (by decide) ⟨b1, c7, c8, c16, c17, by omega, rfl, ⟨f7, f8, f16, f17⟩, hb1⟩
      · intro i Γ _; exact trivial
      · rintro Γ ⟨b, c7, c8, c16, c17, -, rfl, ⟨f7, f8, f16, f17⟩, hb⟩
        lcg_sub
        refine i_anyout hb h2 h12 (by omega) (by decide) fun odd b2 OD hod hb2 => ?_
        have hodl := OD.len
        lcg_sub
        refine i_lcarried (by omega) (by omega) (by omega) (by omega) hod ?_
        lcg_sub
        have stay : N [.sh (.scr (ns.map D.int)), .ow b2, .sh (.int i), .sh (.int n), .sh (.int e), .sh (.lst (L.map fun p => D.tup [D.int p.1, D.int p.2])), .sh (.lst [iL t1, iL t2]), c7, c8, .sh (.tup (odd.map D.int)), .sh (iL ranks), .sh (iL gaps), .sh (.int bg), .sh (.int pr), .sh (iL (runE gaps (iota n))), .sh (iL (usefulE gaps (iota n) 0)), c16, c17, .no] := hN _ ⟨b2, .sh _, .sh _, .sh _, .sh _, .sh _, c7, c8, .sh _, .sh _, .sh _, .sh _, .sh _, .sh _, .sh _, c16, c17, rfl, ⟨rfl, rfl, rfl, rfl, rfl, f7, f8, rfl, rfl, rfl, rfl, rfl, rfl, rfl, f16, f17⟩, hb2⟩
        refine e_dif (fun hgt => ?_) (fun hgt => ?_)
        · have hR : RsnR n ranks gaps odd (.tup [.str "thread", iL t2]) true := by
            have h := RsnR.thread (n := n) (r := ranks) (gs := gaps) (o := odd) t2 (by omega) k2b
            rw [decide_eq_true k2l, k2t, ht2.cnt, ht2.beg, T2.fin, decide_eq_true (show pr < carrO odd bg e by omega)] at h
            exact h
          lcg_sub
          refine i_reason hrl hodl h2 (by omega) (by omega) hod hR ?_
          lcg_sub
          refine i_decide hrl h2 (by omega) (by omega) OD hgaps hod fun d hd => ?_
          cases hd with
          | pass a b' hb' =>
            lcg_sub
            refine i_eq (b := false) (by decide +kernel) (by decide +kernel) (by decide +kernel) ?_
            lcg_sub
            exact stay
          | kept P h =>
            have := no_loss h2 OD hgaps h hpr
            omega
          | thread e' b' p t P h hc ht =>
            lcg_sub
            refine i_eq (b := false) (by decide +kernel) (by decide +kernel) (by decide +kernel) ?_
            lcg_sub
            exact stay
        · lcg_sub
          exact stay
      · rintro k Γ N2 hk ⟨b, c7, c8, c16, c17, k0, rfl, ⟨f7, f8, f16, f17⟩, hb⟩ hN2
        lcg_sub
        refine comp_inv (fun xs acc Γ => ∃ (b : D) (ys cs : List Int), xs = ys.map D.int ∧ acc = cs.map D.int ∧ (cs ++ ys).Sublist gaps ∧ BagD b ∧ Γ = [.sh (.scr (ns.map D.int)), .ow b, .sh (.int i), .sh (.int n), .sh (.int e), .sh (.lst (L.map fun p => D.tup [D.int p.1, D.int p.2])), .sh (.lst [iL t1, iL t2]), c7, .sh (.int k), c9, .sh (iL ranks), .sh (iL gaps), .sh (.int bg), .sh (.int pr), .sh (iL (runE gaps (iota n))), .sh (iL (usefulE gaps (iota n) 0)), c16, c17, .no]) ?_ ?_ ?_ _ _ _ ⟨b, gaps, [], rfl, rfl, List.Sublist.refl _, hb, rfl⟩
        · rintro xs acc Γ ⟨b, ys, cs, rfl, rfl, -, -, rfl⟩
          exact ⟨trivial, rfl⟩
        · rintro acc Γ ⟨b, ys, cs, hx, rfl, hsub, hb, rfl⟩
          have hy : ys = [] := by cases ys with | nil => rfl | cons _ _ => cases hx
          subst hy
          rw [List.append_nil] at hsub
          have hcs : Sch n cs := ⟨fun x hx => hgaps.mem x (hsub.subset hx)⟩
          have hcl := hsub.length_le
          lcg_sub
          refine ⟨n, ranks, cs, rfl, by omega, h2, by omega, hcs, by omega, ?_⟩
          lcg_sub
          refine i_ixM (by split <;> omega) (by show _ < (2 : Int); split <;> omega) fun d hd => ?_
          obtain ⟨t, rfl, OT, hle, hfar⟩ : ∃ t, d = iL t ∧ Out n t ∧ (∀ b e, carrO (invO t) b e ≤ carrO (invO (runE gaps (iota n))) b e) ∧ ∀ x ∈ invO t, x.natAbs < 2 ^ 160 := by
            simp only [List.mem_cons, List.not_mem_nil, or_false] at hd
            have m1 : n * cs.length ≤ 12 * 60 := Nat.mul_le_mul (by omega) (by omega)
            have m2 : n * gaps.length ≤ 12 * 60 := Nat.mul_le_mul (by omega) (by omega)
            rcases hd with rfl | rfl
            · refine ⟨_, rfl, Out.run h2 _ _ _ hcs.mem (out_iota _), ca_less h2 hsub hcs hgaps, fun x hx => ?_⟩
              have h := Far.inv (Out.run h2 ranks cs _ hcs.mem (out_iota _)) (Far.run (n := n) ranks cs (iota_len _) (far_iota _)) x hx
              exact Nat.lt_of_le_of_lt (show x.natAbs ≤ 1000 by omega) (by decide)
            · refine ⟨_, rfl, out_runE h2 _ _ hgaps.mem (out_iota _), fun _ _ => Int.le_refl _, fun x hx => ?_⟩
              have h := Far.inv (out_runE h2 gaps _ hgaps.mem (out_iota _)) (far_runE (n := n) gaps (iota_len _) (far_iota _)) x hx
              exact Nat.lt_of_le_of_lt (show x.natAbs ≤ 1000 by omega) (by decide)
          lcg_sub
          refine i_ended OT (by omega) ?_
          have hol : (invO t).length = n := by rw [invO_len, OT.len]
          generalize invO t = o at hle hfar hol ⊢
          lcg_sub
          refine loop_inv (fun xs Γ => ∃ (c7 : Sl), (∀ x ∈ xs, ∃ (t : List Int) (e' : Int), x = iL t ∧ -12 ≤ e' ∧ e' ≤ 24 ∧ t ∈ allT n e' gaps) ∧ Γ = [.sh (.scr (ns.map D.int)), .ow b, .sh (.int i), .sh (.int n), .sh (.int e), .sh (.lst (L.map fun p => D.tup [D.int p.1, D.int p.2])), .sh (.lst [iL t1, iL t2]), c7, .sh (.int k), c9, .sh (iL ranks), .sh (iL gaps), .sh (.int bg), .sh (.int pr), .sh (iL (runE gaps (iota n))), .sh (iL (usefulE gaps (iota n) 0)), .sh (iL cs), .sh (.tup (o.map D.int)), .no] ∧ fr c7 = true) ?_ ?_ ?_ _ _ ⟨c7, ?_, rfl, f7⟩
          · intro xs Γ _; exact trivial
          · rintro Γ ⟨c7, -, rfl, f7⟩
            exact hN2 _ ⟨b, c7, .sh _, .sh _, .sh _, by omega, rfl, ⟨f7, rfl, rfl, rfl⟩, hb⟩
          · rintro x xs Γ M ⟨c7, hx, rfl, f7⟩ hM
            obtain ⟨t, e', rfl, k1, k2, ht⟩ := hx x (List.mem_cons_self ..)
            obtain ⟨kl, kt, kb⟩ := K e' t k1 k2 ht
            have b0 := kb _ (ig_mem (l := t) (i := 0) (by omega))
            have b9 := kb _ (ig_mem (l := t) (i := -1) (by omega))
            have hca := (Thr.all ht).carr h2 hgaps hle
            lcg_sub
            refine i_lcarried (by omega) (by omega) b0 b9 hfar ?_
            lcg_sub
            refine i_lcounted (by omega) (by omega) (thN_near kl kt) ?_
            rw [kl, Nat.add_sub_cancel]
            lcg_sub
            exact hM _ ⟨.sh (iL t), fun y hy => hx y (List.mem_cons_of_mem _ hy), rfl, rfl⟩
          · intro x hx
            simp only [List.mem_cons, List.not_mem_nil, or_false] at hx
            rcases hx with rfl | rfl
            · exact ⟨t1, e1, rfl, he0, he1, ht1⟩
            · exact ⟨t2, e, rfl, e0.1, e0.2, ht2m⟩
        · rintro x xs acc Γ M ⟨b, ys, cs, hx, rfl, hsub, hb, rfl⟩ hM
          obtain ⟨y, ys', rfl, rfl, rfl⟩ := int_split hx
          have hl' : (cs.map D.int).length < 100000 := by
            have := hsub.length_le
            rw [List.length_append] at this
            rw [List.length_map]; omega
          lcg_sub
          refine e_dif (fun hcd => ?_) (fun hcd => ?_)
          · lcg_sub
            refine hM _ _ ⟨_, ys', cs ++ [y], rfl, by rw [List.map_append]; rfl, by rw [List.append_assoc]; exact hsub, by assumption, rfl⟩
          · exact hM _ _ ⟨_, ys', cs, rfl, rfl, List.Sublist.trans (List.Sublist.append (List.Sublist.refl _) (List.sublist_cons_self ..)) hsub, by assumption, rfl⟩
    · rintro x xs Γ M ⟨c7, hx, rfl, f7⟩ hM
      obtain ⟨t, e', rfl, k1, k2, ht⟩ := hx x (List.mem_cons_self ..)
      obtain ⟨kl, kt, kb⟩ := K e' t k1 k2 ht
      lcg_sub
      refine i_isthr h2 (by omega) (by omega) (thOk_ints (by omega) kb) ?_
      rw [thr_ints kl, kt]
      lcg_sub
      refine i_cost (by omega) (by omega) (thN_near kl kt) ?_
      lcg_sub
      refine i_lcounted (by omega) (by omega) (thN_near kl kt) ?_
      lcg_sub
      exact hM _ ⟨.sh (iL t), fun y hy => hx y (List.mem_cons_of_mem _ hy), rfl, rfl⟩
    · intro x hx
      simp only [List.mem_cons, List.not_mem_nil, or_false] at hx
      rcases hx with rfl | rfl
      · exact ⟨t1, e1, rfl, he0, he1, ht1⟩
      · exact ⟨t2, e, rfl, e0.1, e0.2, ht2m⟩
end LW
namespace LW
open PySem PySem.Spec PyProof.Rows L2 DL
set_option maxHeartbeats 4000000 in
theorem all_mk {l : PySem.W.OpenLaw} {w : World} {K : PySem.W.Frag} {h : Heap} {mg : Str → Option Value} {fa f_law_carried f_stepped_back f_layers f_costs f_carried f_followed f_cheapest f_cheap_thread f_Ring_size f_back f_calls_taken_back f_Ring_rank f_end_of f_barred_pass f_decide f_is_integer f_is_between f_is_size f_Ring___init__ f_cost f_is_thread f_is_barred f_is_reason f_law_take f_law_mixed f_law_any_outcome f_law_counted f_law_ended f_law_called f_law_standing f_law_run f_law_run_of f_law_endless f_law_drawn_thread f_law_schedule f_law_ranks f_law_some_size f_law_bag f_law C_Ring : Addr} (X : K.In h) (G : h.Ns mainGlobals mg) (hfa : mg "law" = some (.ref fa))
    {od_law_carried an_law_carried : Option Addr} {sl_law_carried : Array (Option Value)} {oc_law_carried kV_law_carried dc_law_carried pm_law_carried cd_law_carried ct_law_carried : Value}
    {od_stepped_back an_stepped_back : Option Addr} {sl_stepped_back : Array (Option Value)} {oc_stepped_back kV_stepped_back dc_stepped_back pm_stepped_back cd_stepped_back ct_stepped_back : Value}
    {od_layers an_layers : Option Addr} {sl_layers : Array (Option Value)} {oc_layers kV_layers dc_layers pm_layers cd_layers ct_layers : Value}
    {od_costs an_costs : Option Addr} {sl_costs : Array (Option Value)} {oc_costs kV_costs dc_costs pm_costs cd_costs ct_costs : Value}
    {od_carried an_carried : Option Addr} {sl_carried : Array (Option Value)} {oc_carried kV_carried dc_carried pm_carried cd_carried ct_carried : Value}
    {od_followed an_followed : Option Addr} {sl_followed : Array (Option Value)} {oc_followed kV_followed dc_followed pm_followed cd_followed ct_followed : Value}
    {od_cheapest an_cheapest : Option Addr} {sl_cheapest : Array (Option Value)} {oc_cheapest kV_cheapest dc_cheapest pm_cheapest cd_cheapest ct_cheapest : Value}
    {od_cheap_thread an_cheap_thread : Option Addr} {sl_cheap_thread : Array (Option Value)} {oc_cheap_thread kV_cheap_thread dc_cheap_thread pm_cheap_thread cd_cheap_thread ct_cheap_thread : Value}
    {od_Ring_size an_Ring_size : Option Addr} {sl_Ring_size : Array (Option Value)} {oc_Ring_size kV_Ring_size dc_Ring_size pm_Ring_size cd_Ring_size ct_Ring_size : Value}
    {p_Ring_size : Addr} {rest_Ring_size : List Value}
    {od_back an_back : Option Addr} {sl_back : Array (Option Value)} {oc_back kV_back dc_back pm_back cd_back ct_back : Value}
    {od_calls_taken_back an_calls_taken_back : Option Addr} {sl_calls_taken_back : Array (Option Value)} {oc_calls_taken_back kV_calls_taken_back dc_calls_taken_back pm_calls_taken_back cd_calls_taken_back ct_calls_taken_back : Value}
    {od_Ring_rank an_Ring_rank : Option Addr} {sl_Ring_rank : Array (Option Value)} {oc_Ring_rank kV_Ring_rank dc_Ring_rank pm_Ring_rank cd_Ring_rank ct_Ring_rank : Value}
    {od_end_of an_end_of : Option Addr} {sl_end_of : Array (Option Value)} {oc_end_of kV_end_of dc_end_of pm_end_of cd_end_of ct_end_of : Value}
    {od_barred_pass an_barred_pass : Option Addr} {sl_barred_pass : Array (Option Value)} {oc_barred_pass kV_barred_pass dc_barred_pass pm_barred_pass cd_barred_pass ct_barred_pass : Value}
    {od_decide an_decide : Option Addr} {sl_decide : Array (Option Value)} {oc_decide kV_decide dc_decide pm_decide cd_decide ct_decide : Value}
    {od_is_integer an_is_integer : Option Addr} {sl_is_integer : Array (Option Value)} {oc_is_integer kV_is_integer dc_is_integer pm_is_integer cd_is_integer ct_is_integer : Value}
    {od_is_between an_is_between : Option Addr} {sl_is_between : Array (Option Value)} {oc_is_between kV_is_between dc_is_between pm_is_between cd_is_between ct_is_between : Value}
    {od_is_size an_is_size : Option Addr} {sl_is_size : Array (Option Value)} {oc_is_size kV_is_size dc_is_size pm_is_size cd_is_size ct_is_size : Value}
    {od_Ring___init__ an_Ring___init__ : Option Addr} {sl_Ring___init__ : Array (Option Value)} {oc_Ring___init__ kV_Ring___init__ dc_Ring___init__ pm_Ring___init__ cd_Ring___init__ ct_Ring___init__ : Value}
    {od_cost an_cost : Option Addr} {sl_cost : Array (Option Value)} {oc_cost kV_cost dc_cost pm_cost cd_cost ct_cost : Value}
    {od_is_thread an_is_thread : Option Addr} {sl_is_thread : Array (Option Value)} {oc_is_thread kV_is_thread dc_is_thread pm_is_thread cd_is_thread ct_is_thread : Value}
    {od_is_barred an_is_barred : Option Addr} {sl_is_barred : Array (Option Value)} {oc_is_barred kV_is_barred dc_is_barred pm_is_barred cd_is_barred ct_is_barred : Value}
    {od_is_reason an_is_reason : Option Addr} {sl_is_reason : Array (Option Value)} {oc_is_reason kV_is_reason dc_is_reason pm_is_reason cd_is_reason ct_is_reason : Value}
    {od_law_take an_law_take : Option Addr} {sl_law_take : Array (Option Value)} {oc_law_take kV_law_take dc_law_take pm_law_take cd_law_take ct_law_take : Value}
    {od_law_mixed an_law_mixed : Option Addr} {sl_law_mixed : Array (Option Value)} {oc_law_mixed kV_law_mixed dc_law_mixed pm_law_mixed cd_law_mixed ct_law_mixed : Value}
    {od_law_any_outcome an_law_any_outcome : Option Addr} {sl_law_any_outcome : Array (Option Value)} {oc_law_any_outcome kV_law_any_outcome dc_law_any_outcome pm_law_any_outcome cd_law_any_outcome ct_law_any_outcome : Value}
    {od_law_counted an_law_counted : Option Addr} {sl_law_counted : Array (Option Value)} {oc_law_counted kV_law_counted dc_law_counted pm_law_counted cd_law_counted ct_law_counted : Value}
    {od_law_ended an_law_ended : Option Addr} {sl_law_ended : Array (Option Value)} {oc_law_ended kV_law_ended dc_law_ended pm_law_ended cd_law_ended ct_law_ended : Value}
    {od_law_called an_law_called : Option Addr} {sl_law_called : Array (Option Value)} {oc_law_called kV_law_called dc_law_called pm_law_called cd_law_called ct_law_called : Value}
    {od_law_standing an_law_standing : Option Addr} {sl_law_standing : Array (Option Value)} {oc_law_standing kV_law_standing dc_law_standing pm_law_standing cd_law_standing ct_law_standing : Value}
    {od_law_run an_law_run : Option Addr} {sl_law_run : Array (Option Value)} {oc_law_run kV_law_run dc_law_run pm_law_run cd_law_run ct_law_run : Value}
    {od_law_run_of an_law_run_of : Option Addr} {sl_law_run_of : Array (Option Value)} {oc_law_run_of kV_law_run_of dc_law_run_of pm_law_run_of cd_law_run_of ct_law_run_of : Value}
    {od_law_endless an_law_endless : Option Addr} {sl_law_endless : Array (Option Value)} {oc_law_endless kV_law_endless dc_law_endless pm_law_endless cd_law_endless ct_law_endless : Value}
    {od_law_drawn_thread an_law_drawn_thread : Option Addr} {sl_law_drawn_thread : Array (Option Value)} {oc_law_drawn_thread kV_law_drawn_thread dc_law_drawn_thread pm_law_drawn_thread cd_law_drawn_thread ct_law_drawn_thread : Value}
    {od_law_schedule an_law_schedule : Option Addr} {sl_law_schedule : Array (Option Value)} {oc_law_schedule kV_law_schedule dc_law_schedule pm_law_schedule cd_law_schedule ct_law_schedule : Value}
    {od_law_ranks an_law_ranks : Option Addr} {sl_law_ranks : Array (Option Value)} {oc_law_ranks kV_law_ranks dc_law_ranks pm_law_ranks cd_law_ranks ct_law_ranks : Value}
    {od_law_some_size an_law_some_size : Option Addr} {sl_law_some_size : Array (Option Value)} {oc_law_some_size kV_law_some_size dc_law_some_size pm_law_some_size cd_law_some_size ct_law_some_size : Value}
    {od_law_bag an_law_bag : Option Addr} {sl_law_bag : Array (Option Value)} {oc_law_bag kV_law_bag dc_law_bag pm_law_bag cd_law_bag ct_law_bag : Value}
    {od_law an_law : Option Addr} {sl_law : Array (Option Value)} {oc_law kV_law dc_law pm_law cd_law ct_law : Value}
    {t_MOST_PLACES : Tok}
    (g_Ring : PySem.W.nsIn K mainGlobals "Ring" = some (some (.ref C_Ring)))
    (a_law_carried : PySem.W.nsIn K mainGlobals "_law_carried" = some (some (.ref f_law_carried)))
    (l_law_carried : K.lookup f_law_carried = some ⟨oc_law_carried, od_law_carried, .func (PySem.W.fnOf "_law_carried" "_law_carried" (defArgs s_law_carried) (defBody s_law_carried) (defScope s_law_carried) .none kV_law_carried dc_law_carried pm_law_carried an_law_carried cd_law_carried ct_law_carried), sl_law_carried⟩)
    (c_law_carried : PySem.W.codeIn K cd_law_carried "_law_carried" = true)
    (k_law_carried : PySem.W.keepIn K (.ref f_law_carried) = true)
    (a_stepped_back : PySem.W.nsIn K mainGlobals "stepped_back" = some (some (.ref f_stepped_back)))
    (l_stepped_back : K.lookup f_stepped_back = some ⟨oc_stepped_back, od_stepped_back, .func (PySem.W.fnOf "stepped_back" "stepped_back" (defArgs s_stepped_back) (defBody s_stepped_back) (defScope s_stepped_back) .none kV_stepped_back dc_stepped_back pm_stepped_back an_stepped_back cd_stepped_back ct_stepped_back), sl_stepped_back⟩)
    (c_stepped_back : PySem.W.codeIn K cd_stepped_back "stepped_back" = true)
    (k_stepped_back : PySem.W.keepIn K (.ref f_stepped_back) = true)
    (a_layers : PySem.W.nsIn K mainGlobals "layers" = some (some (.ref f_layers)))
    (l_layers : K.lookup f_layers = some ⟨oc_layers, od_layers, .func (PySem.W.fnOf "layers" "layers" (defArgs s_layers) (defBody s_layers) (defScope s_layers) .none kV_layers dc_layers pm_layers an_layers cd_layers ct_layers), sl_layers⟩)
    (c_layers : PySem.W.codeIn K cd_layers "layers" = true)
    (k_layers : PySem.W.keepIn K (.ref f_layers) = true)
    (a_costs : PySem.W.nsIn K mainGlobals "costs" = some (some (.ref f_costs)))
    (l_costs : K.lookup f_costs = some ⟨oc_costs, od_costs, .func (PySem.W.fnOf "costs" "costs" (defArgs s_costs) (defBody s_costs) (defScope s_costs) .none kV_costs dc_costs pm_costs an_costs cd_costs ct_costs), sl_costs⟩)
    (c_costs : PySem.W.codeIn K cd_costs "costs" = true)
    (k_costs : PySem.W.keepIn K (.ref f_costs) = true)
    (a_carried : PySem.W.nsIn K mainGlobals "carried" = some (some (.ref f_carried)))
    (l_carried : K.lookup f_carried = some ⟨oc_carried, od_carried, .func (PySem.W.fnOf "carried" "carried" (defArgs s_carried) (defBody s_carried) (defScope s_carried) .none kV_carried dc_carried pm_carried an_carried cd_carried ct_carried), sl_carried⟩)
    (c_carried : PySem.W.codeIn K cd_carried "carried" = true)
    (k_carried : PySem.W.keepIn K (.ref f_carried) = true)
    (a_followed : PySem.W.nsIn K mainGlobals "followed" = some (some (.ref f_followed)))
    (l_followed : K.lookup f_followed = some ⟨oc_followed, od_followed, .func (PySem.W.fnOf "followed" "followed" (defArgs s_followed) (defBody s_followed) (defScope s_followed) .none kV_followed dc_followed pm_followed an_followed cd_followed ct_followed), sl_followed⟩)
    (c_followed : PySem.W.codeIn K cd_followed "followed" = true)
    (k_followed : PySem.W.keepIn K (.ref f_followed) = true)
    (a_cheapest : PySem.W.nsIn K mainGlobals "cheapest" = some (some (.ref f_cheapest)))
    (l_cheapest : K.lookup f_cheapest = some ⟨oc_cheapest, od_cheapest, .func (PySem.W.fnOf "cheapest" "cheapest" (defArgs s_cheapest) (defBody s_cheapest) (defScope s_cheapest) .none kV_cheapest dc_cheapest pm_cheapest an_cheapest cd_cheapest ct_cheapest), sl_cheapest⟩)
    (c_cheapest : PySem.W.codeIn K cd_cheapest "cheapest" = true)
    (k_cheapest : PySem.W.keepIn K (.ref f_cheapest) = true)
    (a_cheap_thread : PySem.W.nsIn K mainGlobals "cheap_thread" = some (some (.ref f_cheap_thread)))
    (l_cheap_thread : K.lookup f_cheap_thread = some ⟨oc_cheap_thread, od_cheap_thread, .func (PySem.W.fnOf "cheap_thread" "cheap_thread" (defArgs s_cheap_thread) (defBody s_cheap_thread) (defScope s_cheap_thread) .none kV_cheap_thread dc_cheap_thread pm_cheap_thread an_cheap_thread cd_cheap_thread ct_cheap_thread), sl_cheap_thread⟩)
    (c_cheap_thread : PySem.W.codeIn K cd_cheap_thread "cheap_thread" = true)
    (k_cheap_thread : PySem.W.keepIn K (.ref f_cheap_thread) = true)
    (a_Ring_size : PySem.W.findIn K (.ref C_Ring) "size" = some (some (.ref p_Ring_size)))
    (gt_Ring_size : PySem.W.specialIn K (.ref p_Ring_size) "__get__" = some (some (.builtin "property.__get__")))
    (tk_Ring_size : PySem.W.takesIn K (.ref p_Ring_size) = some true)
    (rc_Ring_size : PySem.W.recIn K p_Ring_size "property" = some (.ref f_Ring_size :: rest_Ring_size))
    (l_Ring_size : K.lookup f_Ring_size = some ⟨oc_Ring_size, od_Ring_size, .func (PySem.W.fnOf "size" "Ring.size" (defArgs s_Ring_size) (defBody s_Ring_size) (defScope s_Ring_size) .none kV_Ring_size dc_Ring_size pm_Ring_size an_Ring_size cd_Ring_size ct_Ring_size), sl_Ring_size⟩)
    (c_Ring_size : PySem.W.codeIn K cd_Ring_size "Ring.size" = true)
    (k_Ring_size : PySem.W.keepIn K (.ref f_Ring_size) = true)
    (a_back : PySem.W.nsIn K mainGlobals "back" = some (some (.ref f_back)))
    (l_back : K.lookup f_back = some ⟨oc_back, od_back, .func (PySem.W.fnOf "back" "back" (defArgs s_back) (defBody s_back) (defScope s_back) .none kV_back dc_back pm_back an_back cd_back ct_back), sl_back⟩)
    (c_back : PySem.W.codeIn K cd_back "back" = true)
    (k_back : PySem.W.keepIn K (.ref f_back) = true)
    (a_calls_taken_back : PySem.W.nsIn K mainGlobals "calls_taken_back" = some (some (.ref f_calls_taken_back)))
    (l_calls_taken_back : K.lookup f_calls_taken_back = some ⟨oc_calls_taken_back, od_calls_taken_back, .func (PySem.W.fnOf "calls_taken_back" "calls_taken_back" (defArgs s_calls_taken_back) (defBody s_calls_taken_back) (defScope s_calls_taken_back) .none kV_calls_taken_back dc_calls_taken_back pm_calls_taken_back an_calls_taken_back cd_calls_taken_back ct_calls_taken_back), sl_calls_taken_back⟩)
    (c_calls_taken_back : PySem.W.codeIn K cd_calls_taken_back "calls_taken_back" = true)
    (k_calls_taken_back : PySem.W.keepIn K (.ref f_calls_taken_back) = true)
    (a_Ring_rank : PySem.W.findIn K (.ref C_Ring) "rank" = some (some (.ref f_Ring_rank)))
    (i_Ring_rank : PySem.W.isFn K (.ref f_Ring_rank) = true)
    (l_Ring_rank : K.lookup f_Ring_rank = some ⟨oc_Ring_rank, od_Ring_rank, .func (PySem.W.fnOf "rank" "Ring.rank" (defArgs s_Ring_rank) (defBody s_Ring_rank) (defScope s_Ring_rank) .none kV_Ring_rank dc_Ring_rank pm_Ring_rank an_Ring_rank cd_Ring_rank ct_Ring_rank), sl_Ring_rank⟩)
    (c_Ring_rank : PySem.W.codeIn K cd_Ring_rank "Ring.rank" = true)
    (k_Ring_rank : PySem.W.keepIn K (.ref f_Ring_rank) = true)
    (a_end_of : PySem.W.nsIn K mainGlobals "end_of" = some (some (.ref f_end_of)))
    (l_end_of : K.lookup f_end_of = some ⟨oc_end_of, od_end_of, .func (PySem.W.fnOf "end_of" "end_of" (defArgs s_end_of) (defBody s_end_of) (defScope s_end_of) .none kV_end_of dc_end_of pm_end_of an_end_of cd_end_of ct_end_of), sl_end_of⟩)
    (c_end_of : PySem.W.codeIn K cd_end_of "end_of" = true)
    (k_end_of : PySem.W.keepIn K (.ref f_end_of) = true)
    (a_barred_pass : PySem.W.nsIn K mainGlobals "barred_pass" = some (some (.ref f_barred_pass)))
    (l_barred_pass : K.lookup f_barred_pass = some ⟨oc_barred_pass, od_barred_pass, .func (PySem.W.fnOf "barred_pass" "barred_pass" (defArgs s_barred_pass) (defBody s_barred_pass) (defScope s_barred_pass) .none kV_barred_pass dc_barred_pass pm_barred_pass an_barred_pass cd_barred_pass ct_barred_pass), sl_barred_pass⟩)
    (c_barred_pass : PySem.W.codeIn K cd_barred_pass "barred_pass" = true)
    (k_barred_pass : PySem.W.keepIn K (.ref f_barred_pass) = true)
    (a_decide : PySem.W.nsIn K mainGlobals "decide" = some (some (.ref f_decide)))
    (l_decide : K.lookup f_decide = some ⟨oc_decide, od_decide, .func (PySem.W.fnOf "decide" "decide" (defArgs s_decide) (defBody s_decide) (defScope s_decide) .none kV_decide dc_decide pm_decide an_decide cd_decide ct_decide), sl_decide⟩)
    (c_decide : PySem.W.codeIn K cd_decide "decide" = true)
    (k_decide : PySem.W.keepIn K (.ref f_decide) = true)
    (a_is_integer : PySem.W.nsIn K mainGlobals "is_integer" = some (some (.ref f_is_integer)))
    (l_is_integer : K.lookup f_is_integer = some ⟨oc_is_integer, od_is_integer, .func (PySem.W.fnOf "is_integer" "is_integer" (defArgs s_is_integer) (defBody s_is_integer) (defScope s_is_integer) .none kV_is_integer dc_is_integer pm_is_integer an_is_integer cd_is_integer ct_is_integer), sl_is_integer⟩)
    (c_is_integer : PySem.W.codeIn K cd_is_integer "is_integer" = true)
    (k_is_integer : PySem.W.keepIn K (.ref f_is_integer) = true)
    (a_is_between : PySem.W.nsIn K mainGlobals "is_between" = some (some (.ref f_is_between)))
    (l_is_between : K.lookup f_is_between = some ⟨oc_is_between, od_is_between, .func (PySem.W.fnOf "is_between" "is_between" (defArgs s_is_between) (defBody s_is_between) (defScope s_is_between) .none kV_is_between dc_is_between pm_is_between an_is_between cd_is_between ct_is_between), sl_is_between⟩)
    (c_is_between : PySem.W.codeIn K cd_is_between "is_between" = true)
    (k_is_between : PySem.W.keepIn K (.ref f_is_between) = true)
    (a_is_size : PySem.W.nsIn K mainGlobals "is_size" = some (some (.ref f_is_size)))
    (l_is_size : K.lookup f_is_size = some ⟨oc_is_size, od_is_size, .func (PySem.W.fnOf "is_size" "is_size" (defArgs s_is_size) (defBody s_is_size) (defScope s_is_size) .none kV_is_size dc_is_size pm_is_size an_is_size cd_is_size ct_is_size), sl_is_size⟩)
    (c_is_size : PySem.W.codeIn K cd_is_size "is_size" = true)
    (k_is_size : PySem.W.keepIn K (.ref f_is_size) = true)
    (a_Ring___init__ : PySem.W.findIn K (.ref C_Ring) "__init__" = some (some (.ref f_Ring___init__)))
    (i_Ring___init__ : PySem.W.isFn K (.ref f_Ring___init__) = true)
    (l_Ring___init__ : K.lookup f_Ring___init__ = some ⟨oc_Ring___init__, od_Ring___init__, .func (PySem.W.fnOf "__init__" "Ring.__init__" (defArgs s_Ring___init__) (defBody s_Ring___init__) (defScope s_Ring___init__) .none kV_Ring___init__ dc_Ring___init__ pm_Ring___init__ an_Ring___init__ cd_Ring___init__ ct_Ring___init__), sl_Ring___init__⟩)
    (c_Ring___init__ : PySem.W.codeIn K cd_Ring___init__ "Ring.__init__" = true)
    (k_Ring___init__ : PySem.W.keepIn K (.ref f_Ring___init__) = true)
    (a_cost : PySem.W.nsIn K mainGlobals "cost" = some (some (.ref f_cost)))
    (l_cost : K.lookup f_cost = some ⟨oc_cost, od_cost, .func (PySem.W.fnOf "cost" "cost" (defArgs s_cost) (defBody s_cost) (defScope s_cost) .none kV_cost dc_cost pm_cost an_cost cd_cost ct_cost), sl_cost⟩)
    (c_cost : PySem.W.codeIn K cd_cost "cost" = true)
    (k_cost : PySem.W.keepIn K (.ref f_cost) = true)
    (a_is_thread : PySem.W.nsIn K mainGlobals "is_thread" = some (some (.ref f_is_thread)))
    (l_is_thread : K.lookup f_is_thread = some ⟨oc_is_thread, od_is_thread, .func (PySem.W.fnOf "is_thread" "is_thread" (defArgs s_is_thread) (defBody s_is_thread) (defScope s_is_thread) .none kV_is_thread dc_is_thread pm_is_thread an_is_thread cd_is_thread ct_is_thread), sl_is_thread⟩)
    (c_is_thread : PySem.W.codeIn K cd_is_thread "is_thread" = true)
    (k_is_thread : PySem.W.keepIn K (.ref f_is_thread) = true)
    (a_is_barred : PySem.W.nsIn K mainGlobals "is_barred" = some (some (.ref f_is_barred)))
    (l_is_barred : K.lookup f_is_barred = some ⟨oc_is_barred, od_is_barred, .func (PySem.W.fnOf "is_barred" "is_barred" (defArgs s_is_barred) (defBody s_is_barred) (defScope s_is_barred) .none kV_is_barred dc_is_barred pm_is_barred an_is_barred cd_is_barred ct_is_barred), sl_is_barred⟩)
    (c_is_barred : PySem.W.codeIn K cd_is_barred "is_barred" = true)
    (k_is_barred : PySem.W.keepIn K (.ref f_is_barred) = true)
    (a_is_reason : PySem.W.nsIn K mainGlobals "is_reason" = some (some (.ref f_is_reason)))
    (l_is_reason : K.lookup f_is_reason = some ⟨oc_is_reason, od_is_reason, .func (PySem.W.fnOf "is_reason" "is_reason" (defArgs s_is_reason) (defBody s_is_reason) (defScope s_is_reason) .none kV_is_reason dc_is_reason pm_is_reason an_is_reason cd_is_reason ct_is_reason), sl_is_reason⟩)
    (c_is_reason : PySem.W.codeIn K cd_is_reason "is_reason" = true)
    (k_is_reason : PySem.W.keepIn K (.ref f_is_reason) = true)
    (a_law_take : PySem.W.nsIn K mainGlobals "_law_take" = some (some (.ref f_law_take)))
    (l_law_take : K.lookup f_law_take = some ⟨oc_law_take, od_law_take, .func (PySem.W.fnOf "_law_take" "_law_take" (defArgs s_law_take) (defBody s_law_take) (defScope s_law_take) .none kV_law_take dc_law_take pm_law_take an_law_take cd_law_take ct_law_take), sl_law_take⟩)
    (c_law_take : PySem.W.codeIn K cd_law_take "_law_take" = true)
    (k_law_take : PySem.W.keepIn K (.ref f_law_take) = true)
    (a_law_mixed : PySem.W.nsIn K mainGlobals "_law_mixed" = some (some (.ref f_law_mixed)))
    (l_law_mixed : K.lookup f_law_mixed = some ⟨oc_law_mixed, od_law_mixed, .func (PySem.W.fnOf "_law_mixed" "_law_mixed" (defArgs s_law_mixed) (defBody s_law_mixed) (defScope s_law_mixed) .none kV_law_mixed dc_law_mixed pm_law_mixed an_law_mixed cd_law_mixed ct_law_mixed), sl_law_mixed⟩)
    (c_law_mixed : PySem.W.codeIn K cd_law_mixed "_law_mixed" = true)
    (k_law_mixed : PySem.W.keepIn K (.ref f_law_mixed) = true)
    (a_law_any_outcome : PySem.W.nsIn K mainGlobals "_law_any_outcome" = some (some (.ref f_law_any_outcome)))
    (l_law_any_outcome : K.lookup f_law_any_outcome = some ⟨oc_law_any_outcome, od_law_any_outcome, .func (PySem.W.fnOf "_law_any_outcome" "_law_any_outcome" (defArgs s_law_any_outcome) (defBody s_law_any_outcome) (defScope s_law_any_outcome) .none kV_law_any_outcome dc_law_any_outcome pm_law_any_outcome an_law_any_outcome cd_law_any_outcome ct_law_any_outcome), sl_law_any_outcome⟩)
    (c_law_any_outcome : PySem.W.codeIn K cd_law_any_outcome "_law_any_outcome" = true)
    (k_law_any_outcome : PySem.W.keepIn K (.ref f_law_any_outcome) = true)
    (a_law_counted : PySem.W.nsIn K mainGlobals "_law_counted" = some (some (.ref f_law_counted)))
    (l_law_counted : K.lookup f_law_counted = some ⟨oc_law_counted, od_law_counted, .func (PySem.W.fnOf "_law_counted" "_law_counted" (defArgs s_law_counted) (defBody s_law_counted) (defScope s_law_counted) .none kV_law_counted dc_law_counted pm_law_counted an_law_counted cd_law_counted ct_law_counted), sl_law_counted⟩)
    (c_law_counted : PySem.W.codeIn K cd_law_counted "_law_counted" = true)
    (k_law_counted : PySem.W.keepIn K (.ref f_law_counted) = true)
    (a_law_ended : PySem.W.nsIn K mainGlobals "_law_ended" = some (some (.ref f_law_ended)))
    (l_law_ended : K.lookup f_law_ended = some ⟨oc_law_ended, od_law_ended, .func (PySem.W.fnOf "_law_ended" "_law_ended" (defArgs s_law_ended) (defBody s_law_ended) (defScope s_law_ended) .none kV_law_ended dc_law_ended pm_law_ended an_law_ended cd_law_ended ct_law_ended), sl_law_ended⟩)
    (c_law_ended : PySem.W.codeIn K cd_law_ended "_law_ended" = true)
    (k_law_ended : PySem.W.keepIn K (.ref f_law_ended) = true)
    (a_law_called : PySem.W.nsIn K mainGlobals "_law_called" = some (some (.ref f_law_called)))
    (l_law_called : K.lookup f_law_called = some ⟨oc_law_called, od_law_called, .func (PySem.W.fnOf "_law_called" "_law_called" (defArgs s_law_called) (defBody s_law_called) (defScope s_law_called) .none kV_law_called dc_law_called pm_law_called an_law_called cd_law_called ct_law_called), sl_law_called⟩)
    (c_law_called : PySem.W.codeIn K cd_law_called "_law_called" = true)
    (k_law_called : PySem.W.keepIn K (.ref f_law_called) = true)
    (a_law_standing : PySem.W.nsIn K mainGlobals "_law_standing" = some (some (.ref f_law_standing)))
    (l_law_standing : K.lookup f_law_standing = some ⟨oc_law_standing, od_law_standing, .func (PySem.W.fnOf "_law_standing" "_law_standing" (defArgs s_law_standing) (defBody s_law_standing) (defScope s_law_standing) .none kV_law_standing dc_law_standing pm_law_standing an_law_standing cd_law_standing ct_law_standing), sl_law_standing⟩)
    (c_law_standing : PySem.W.codeIn K cd_law_standing "_law_standing" = true)
    (k_law_standing : PySem.W.keepIn K (.ref f_law_standing) = true)
    (a_law_run : PySem.W.nsIn K mainGlobals "_law_run" = some (some (.ref f_law_run)))
    (l_law_run : K.lookup f_law_run = some ⟨oc_law_run, od_law_run, .func (PySem.W.fnOf "_law_run" "_law_run" (defArgs s_law_run) (defBody s_law_run) (defScope s_law_run) .none kV_law_run dc_law_run pm_law_run an_law_run cd_law_run ct_law_run), sl_law_run⟩)
    (c_law_run : PySem.W.codeIn K cd_law_run "_law_run" = true)
    (k_law_run : PySem.W.keepIn K (.ref f_law_run) = true)
    (a_law_run_of : PySem.W.nsIn K mainGlobals "_law_run_of" = some (some (.ref f_law_run_of)))
    (l_law_run_of : K.lookup f_law_run_of = some ⟨oc_law_run_of, od_law_run_of, .func (PySem.W.fnOf "_law_run_of" "_law_run_of" (defArgs s_law_run_of) (defBody s_law_run_of) (defScope s_law_run_of) .none kV_law_run_of dc_law_run_of pm_law_run_of an_law_run_of cd_law_run_of ct_law_run_of), sl_law_run_of⟩)
    (c_law_run_of : PySem.W.codeIn K cd_law_run_of "_law_run_of" = true)
    (k_law_run_of : PySem.W.keepIn K (.ref f_law_run_of) = true)
    (a_law_endless : PySem.W.nsIn K mainGlobals "_law_endless" = some (some (.ref f_law_endless)))
    (l_law_endless : K.lookup f_law_endless = some ⟨oc_law_endless, od_law_endless, .func (PySem.W.fnOf "_law_endless" "_law_endless" (defArgs s_law_endless) (defBody s_law_endless) (defScope s_law_endless) .none kV_law_endless dc_law_endless pm_law_endless an_law_endless cd_law_endless ct_law_endless), sl_law_endless⟩)
    (c_law_endless : PySem.W.codeIn K cd_law_endless "_law_endless" = true)
    (k_law_endless : PySem.W.keepIn K (.ref f_law_endless) = true)
    (a_law_drawn_thread : PySem.W.nsIn K mainGlobals "_law_drawn_thread" = some (some (.ref f_law_drawn_thread)))
    (l_law_drawn_thread : K.lookup f_law_drawn_thread = some ⟨oc_law_drawn_thread, od_law_drawn_thread, .func (PySem.W.fnOf "_law_drawn_thread" "_law_drawn_thread" (defArgs s_law_drawn_thread) (defBody s_law_drawn_thread) (defScope s_law_drawn_thread) .none kV_law_drawn_thread dc_law_drawn_thread pm_law_drawn_thread an_law_drawn_thread cd_law_drawn_thread ct_law_drawn_thread), sl_law_drawn_thread⟩)
    (c_law_drawn_thread : PySem.W.codeIn K cd_law_drawn_thread "_law_drawn_thread" = true)
    (k_law_drawn_thread : PySem.W.keepIn K (.ref f_law_drawn_thread) = true)
    (a_law_schedule : PySem.W.nsIn K mainGlobals "_law_schedule" = some (some (.ref f_law_schedule)))
    (l_law_schedule : K.lookup f_law_schedule = some ⟨oc_law_schedule, od_law_schedule, .func (PySem.W.fnOf "_law_schedule" "_law_schedule" (defArgs s_law_schedule) (defBody s_law_schedule) (defScope s_law_schedule) .none kV_law_schedule dc_law_schedule pm_law_schedule an_law_schedule cd_law_schedule ct_law_schedule), sl_law_schedule⟩)
    (c_law_schedule : PySem.W.codeIn K cd_law_schedule "_law_schedule" = true)
    (k_law_schedule : PySem.W.keepIn K (.ref f_law_schedule) = true)
    (a_law_ranks : PySem.W.nsIn K mainGlobals "_law_ranks" = some (some (.ref f_law_ranks)))
    (l_law_ranks : K.lookup f_law_ranks = some ⟨oc_law_ranks, od_law_ranks, .func (PySem.W.fnOf "_law_ranks" "_law_ranks" (defArgs s_law_ranks) (defBody s_law_ranks) (defScope s_law_ranks) .none kV_law_ranks dc_law_ranks pm_law_ranks an_law_ranks cd_law_ranks ct_law_ranks), sl_law_ranks⟩)
    (c_law_ranks : PySem.W.codeIn K cd_law_ranks "_law_ranks" = true)
    (k_law_ranks : PySem.W.keepIn K (.ref f_law_ranks) = true)
    (a_law_some_size : PySem.W.nsIn K mainGlobals "_law_some_size" = some (some (.ref f_law_some_size)))
    (l_law_some_size : K.lookup f_law_some_size = some ⟨oc_law_some_size, od_law_some_size, .func (PySem.W.fnOf "_law_some_size" "_law_some_size" (defArgs s_law_some_size) (defBody s_law_some_size) (defScope s_law_some_size) .none kV_law_some_size dc_law_some_size pm_law_some_size an_law_some_size cd_law_some_size ct_law_some_size), sl_law_some_size⟩)
    (c_law_some_size : PySem.W.codeIn K cd_law_some_size "_law_some_size" = true)
    (k_law_some_size : PySem.W.keepIn K (.ref f_law_some_size) = true)
    (a_law_bag : PySem.W.nsIn K mainGlobals "_law_bag" = some (some (.ref f_law_bag)))
    (l_law_bag : K.lookup f_law_bag = some ⟨oc_law_bag, od_law_bag, .func (PySem.W.fnOf "_law_bag" "_law_bag" (defArgs s_law_bag) (defBody s_law_bag) (defScope s_law_bag) .none kV_law_bag dc_law_bag pm_law_bag an_law_bag cd_law_bag ct_law_bag), sl_law_bag⟩)
    (c_law_bag : PySem.W.codeIn K cd_law_bag "_law_bag" = true)
    (k_law_bag : PySem.W.keepIn K (.ref f_law_bag) = true)
    (a_law : PySem.W.nsIn K mainGlobals "law" = some (some (.ref f_law)))
    (l_law : K.lookup f_law = some ⟨oc_law, od_law, .func (PySem.W.fnOf "law" "law" (defArgs s_law) (defBody s_law) (defScope s_law) .none kV_law dc_law pm_law an_law cd_law ct_law), sl_law⟩)
    (c_law : PySem.W.codeIn K cd_law "law" = true)
    (k_law : PySem.W.keepIn K (.ref f_law) = true)
    (pg_Ring : PySem.W.plainGet K C_Ring Str.empty = true)
    (hd_Ring : PySem.W.hasDictIn K C_Ring = true)
    (po_Ring : PySem.W.plainOver K C_Ring = true)
    (sa_Ring : PySem.W.findIn K (.ref C_Ring) "__setattr__" = some (some (.builtin "object.__setattr__")))
    (n_Ring_rank_list : PySem.W.findIn K (.ref C_Ring) "rank_list" = some none)
    (mk_Ring : PySem.W.makesIn K C_Ring = true)
    (kc_Ring : PySem.W.keepIn K (.ref C_Ring) = true)
    (z_abs : PySem.W.nsIn K mainGlobals "abs" = some none)
    (z_all : PySem.W.nsIn K mainGlobals "all" = some none)
    (z_bool : PySem.W.nsIn K mainGlobals "bool" = some none)
    (z_divmod : PySem.W.nsIn K mainGlobals "divmod" = some none)
    (z_enumerate : PySem.W.nsIn K mainGlobals "enumerate" = some none)
    (z_int : PySem.W.nsIn K mainGlobals "int" = some none)
    (z_isinstance : PySem.W.nsIn K mainGlobals "isinstance" = some none)
    (z_len : PySem.W.nsIn K mainGlobals "len" = some none)
    (z_list : PySem.W.nsIn K mainGlobals "list" = some none)
    (z_max : PySem.W.nsIn K mainGlobals "max" = some none)
    (z_min : PySem.W.nsIn K mainGlobals "min" = some none)
    (z_range : PySem.W.nsIn K mainGlobals "range" = some none)
    (z_sorted : PySem.W.nsIn K mainGlobals "sorted" = some none)
    (z_tuple : PySem.W.nsIn K mainGlobals "tuple" = some none)
    (g_MOST_PLACES : PySem.W.nsIn K mainGlobals "MOST_PLACES" = some (some (.int 12 t_MOST_PLACES)))
    : ∃ fd : FuncData, (∀ (s : Shared) (v : Value), BindsTo s fd ⟨[v], []⟩ [("_law_script", v)]) ∧ ∀ base : Heap, K.In base → base.Ns mainGlobals mg → FnG l.prog w K mg base 6 fa fd ["_law_script"] (spD K [.S] slaw) := by
  have e := hfa.symm.trans (PySem.W.mg_of X G a_law)
  cases e
  have F_law_carried := fun_mk (st := s_law_carried) l_law_carried c_law_carried k_law_carried
  have b_law_carried := F_law_carried.binds (ps := ["_law_outcome", "_law_begin", "_law_end"]) fun _ _ _ _ _ _ us hl => match us, hl with | [_, _, _], _ => rfl
  have F_stepped_back := fun_mk (st := s_stepped_back) l_stepped_back c_stepped_back k_stepped_back
  have b_stepped_back := F_stepped_back.binds (ps := ["size", "prices", "gap"]) fun _ _ _ _ _ _ us hl => match us, hl with | [_, _, _], _ => rfl
  have F_layers := fun_mk (st := s_layers) l_layers c_layers k_layers
  have b_layers := F_layers.binds (ps := ["size", "schedule", "end"]) fun _ _ _ _ _ _ us hl => match us, hl with | [_, _, _], _ => rfl
  have F_costs := fun_mk (st := s_costs) l_costs c_costs k_costs
  have b_costs := F_costs.binds (ps := ["size", "schedule", "end"]) fun _ _ _ _ _ _ us hl => match us, hl with | [_, _, _], _ => rfl
  have F_carried := fun_mk (st := s_carried) l_carried c_carried k_carried
  have b_carried := F_carried.binds (ps := ["outcome", "begin", "end"]) fun _ _ _ _ _ _ us hl => match us, hl with | [_, _, _], _ => rfl
  have F_followed := fun_mk (st := s_followed) l_followed c_followed k_followed
  have b_followed := F_followed.binds (ps := ["size", "gap", "here", "later"]) fun _ _ _ _ _ _ us hl => match us, hl with | [_, _, _, _], _ => rfl
  have F_cheapest := fun_mk (st := s_cheapest) l_cheapest c_cheapest k_cheapest
  have b_cheapest := F_cheapest.binds (ps := ["size", "schedule", "begin", "end"]) fun _ _ _ _ _ _ us hl => match us, hl with | [_, _, _, _], _ => rfl
  have F_cheap_thread := fun_mk (st := s_cheap_thread) l_cheap_thread c_cheap_thread k_cheap_thread
  have b_cheap_thread := F_cheap_thread.binds (ps := ["size", "schedule", "outcome"]) fun _ _ _ _ _ _ us hl => match us, hl with | [_, _, _], _ => rfl
  have F_Ring_size := fun_mk (st := s_Ring_size) l_Ring_size c_Ring_size k_Ring_size
  have b_Ring_size := F_Ring_size.binds (ps := ["self"]) fun _ _ _ _ _ _ us hl => match us, hl with | [_], _ => rfl
  have F_back := fun_mk (st := s_back) l_back c_back k_back
  have b_back := F_back.binds (ps := ["outcome"]) fun _ _ _ _ _ _ us hl => match us, hl with | [_], _ => rfl
  have F_calls_taken_back := fun_mk (st := s_calls_taken_back) l_calls_taken_back c_calls_taken_back k_calls_taken_back
  have b_calls_taken_back := F_calls_taken_back.binds (ps := ["size", "schedule", "outcome"]) fun _ _ _ _ _ _ us hl => match us, hl with | [_, _, _], _ => rfl
  have F_Ring_rank := fun_mk (st := s_Ring_rank) l_Ring_rank c_Ring_rank k_Ring_rank
  have b_Ring_rank := F_Ring_rank.binds (ps := ["self", "place"]) fun _ _ _ _ _ _ us hl => match us, hl with | [_, _], _ => rfl
  have F_end_of := fun_mk (st := s_end_of) l_end_of c_end_of k_end_of
  have b_end_of := F_end_of.binds (ps := ["outcome", "place"]) fun _ _ _ _ _ _ us hl => match us, hl with | [_, _], _ => rfl
  have F_barred_pass := fun_mk (st := s_barred_pass) l_barred_pass c_barred_pass k_barred_pass
  have b_barred_pass := F_barred_pass.binds (ps := ["ring", "outcome"]) fun _ _ _ _ _ _ us hl => match us, hl with | [_, _], _ => rfl
  have F_decide := fun_mk (st := s_decide) l_decide c_decide k_decide
  have b_decide := F_decide.binds (ps := ["ring", "schedule", "outcome"]) fun _ _ _ _ _ _ us hl => match us, hl with | [_, _, _], _ => rfl
  have F_is_integer := fun_mk (st := s_is_integer) l_is_integer c_is_integer k_is_integer
  have b_is_integer := F_is_integer.binds (ps := ["thing"]) fun _ _ _ _ _ _ us hl => match us, hl with | [_], _ => rfl
  have F_is_between := fun_mk (st := s_is_between) l_is_between c_is_between k_is_between
  have b_is_between := F_is_between.binds (ps := ["thing", "least", "most"]) fun _ _ _ _ _ _ us hl => match us, hl with | [_, _, _], _ => rfl
  have F_is_size := fun_mk (st := s_is_size) l_is_size c_is_size k_is_size
  have b_is_size := F_is_size.binds (ps := ["thing"]) fun _ _ _ _ _ _ us hl => match us, hl with | [_], _ => rfl
  have F_Ring___init__ := fun_mk (st := s_Ring___init__) l_Ring___init__ c_Ring___init__ k_Ring___init__
  have b_Ring___init__ := F_Ring___init__.binds (ps := ["self", "ranks"]) fun _ _ _ _ _ _ us hl => match us, hl with | [_, _], _ => rfl
  have F_cost := fun_mk (st := s_cost) l_cost c_cost k_cost
  have b_cost := F_cost.binds (ps := ["thread"]) fun _ _ _ _ _ _ us hl => match us, hl with | [_], _ => rfl
  have F_is_thread := fun_mk (st := s_is_thread) l_is_thread c_is_thread k_is_thread
  have b_is_thread := F_is_thread.binds (ps := ["size", "schedule", "thing"]) fun _ _ _ _ _ _ us hl => match us, hl with | [_, _, _], _ => rfl
  have F_is_barred := fun_mk (st := s_is_barred) l_is_barred c_is_barred k_is_barred
  have b_is_barred := F_is_barred.binds (ps := ["ring", "outcome", "one", "other"]) fun _ _ _ _ _ _ us hl => match us, hl with | [_, _, _, _], _ => rfl
  have F_is_reason := fun_mk (st := s_is_reason) l_is_reason c_is_reason k_is_reason
  have b_is_reason := F_is_reason.binds (ps := ["ring", "schedule", "outcome", "thing"]) fun _ _ _ _ _ _ us hl => match us, hl with | [_, _, _, _], _ => rfl
  have F_law_take := fun_mk (st := s_law_take) l_law_take c_law_take k_law_take
  have b_law_take := F_law_take.binds (ps := ["_law_bag_here", "_law_many"]) fun _ _ _ _ _ _ us hl => match us, hl with | [_, _], _ => rfl
  have F_law_mixed := fun_mk (st := s_law_mixed) l_law_mixed c_law_mixed k_law_mixed
  have b_law_mixed := F_law_mixed.binds (ps := ["_law_bag_here", "_law_things"]) fun _ _ _ _ _ _ us hl => match us, hl with | [_, _], _ => rfl
  have F_law_any_outcome := fun_mk (st := s_law_any_outcome) l_law_any_outcome c_law_any_outcome k_law_any_outcome
  have b_law_any_outcome := F_law_any_outcome.binds (ps := ["_law_bag_here", "_law_size", "_law_laps"]) fun _ _ _ _ _ _ us hl => match us, hl with | [_, _, _], _ => rfl
  have F_law_counted := fun_mk (st := s_law_counted) l_law_counted c_law_counted k_law_counted
  have b_law_counted := F_law_counted.binds (ps := ["_law_thread"]) fun _ _ _ _ _ _ us hl => match us, hl with | [_], _ => rfl
  have F_law_ended := fun_mk (st := s_law_ended) l_law_ended c_law_ended k_law_ended
  have b_law_ended := F_law_ended.binds (ps := ["_law_there"]) fun _ _ _ _ _ _ us hl => match us, hl with | [_], _ => rfl
  have F_law_called := fun_mk (st := s_law_called) l_law_called c_law_called k_law_called
  have b_law_called := F_law_called.binds (ps := ["_law_ranks_here", "_law_there", "_law_gap"]) fun _ _ _ _ _ _ us hl => match us, hl with | [_, _, _], _ => rfl
  have F_law_standing := fun_mk (st := s_law_standing) l_law_standing c_law_standing k_law_standing
  have b_law_standing := F_law_standing.binds (ps := ["_law_size"]) fun _ _ _ _ _ _ us hl => match us, hl with | [_], _ => rfl
  have F_law_run := fun_mk (st := s_law_run) l_law_run c_law_run k_law_run
  have b_law_run := F_law_run.binds (ps := ["_law_ranks_here", "_law_schedule_here"]) fun _ _ _ _ _ _ us hl => match us, hl with | [_, _], _ => rfl
  have F_law_run_of := fun_mk (st := s_law_run_of) l_law_run_of c_law_run_of k_law_run_of
  have b_law_run_of := F_law_run_of.binds (ps := ["_law_there", "_law_schedule_here"]) fun _ _ _ _ _ _ us hl => match us, hl with | [_, _], _ => rfl
  have F_law_endless := fun_mk (st := s_law_endless) l_law_endless c_law_endless k_law_endless
  have b_law_endless := F_law_endless.binds (ps := ["_law_size", "_law_schedule_here"]) fun _ _ _ _ _ _ us hl => match us, hl with | [_, _], _ => rfl
  have F_law_drawn_thread := fun_mk (st := s_law_drawn_thread) l_law_drawn_thread c_law_drawn_thread k_law_drawn_thread
  have b_law_drawn_thread := F_law_drawn_thread.binds (ps := ["_law_bag_here", "_law_size", "_law_schedule_here"]) fun _ _ _ _ _ _ us hl => match us, hl with | [_, _, _], _ => rfl
  have F_law_schedule := fun_mk (st := s_law_schedule) l_law_schedule c_law_schedule k_law_schedule
  have b_law_schedule := F_law_schedule.binds (ps := ["_law_bag_here", "_law_size", "_law_most"]) fun _ _ _ _ _ _ us hl => match us, hl with | [_, _, _], _ => rfl
  have F_law_ranks := fun_mk (st := s_law_ranks) l_law_ranks c_law_ranks k_law_ranks
  have b_law_ranks := F_law_ranks.binds (ps := ["_law_bag_here", "_law_size"]) fun _ _ _ _ _ _ us hl => match us, hl with | [_, _], _ => rfl
  have F_law_some_size := fun_mk (st := s_law_some_size) l_law_some_size c_law_some_size k_law_some_size
  have b_law_some_size := F_law_some_size.binds (ps := ["_law_bag_here", "_law_most"]) fun _ _ _ _ _ _ us hl => match us, hl with | [_, _], _ => rfl
  have F_law_bag := fun_mk (st := s_law_bag) l_law_bag c_law_bag k_law_bag
  have b_law_bag := F_law_bag.binds (ps := ["_law_script"]) fun _ _ _ _ _ _ us hl => match us, hl with | [_], _ => rfl
  have F_law := fun_mk (st := s_law) l_law c_law k_law
  have b_law := F_law.binds (ps := ["_law_script"]) fun _ _ _ _ _ _ us hl => match us, hl with | [_], _ => rfl
  have cl_Ring : Cls K C_Ring := ⟨pg_Ring, hd_Ring, po_Ring, sa_Ring⟩
  refine ⟨PySem.W.fnOf "law" "law" (defArgs s_law) (defBody s_law) (defScope s_law) .none kV_law dc_law pm_law an_law cd_law ct_law, fun s v => .of_eq rfl, fun base _ _ => ?_⟩
  have G_law_carried := walk_law_carried (P := l.prog) (w := w) (mg := mg) (base := base) F_law_carried (PySem.W.mg_none_of X G z_range) (PySem.W.mg_none_of X G z_max) (PySem.W.mg_none_of X G z_len) (sd := slaw_carried) v_law_carried
  have G_stepped_back := walk_stepped_back (P := l.prog) (w := w) (mg := mg) (base := base) F_stepped_back (PySem.W.mg_none_of X G z_min) (sd := sstepped_back) v_stepped_back
  have G_layers := walk_layers (P := l.prog) (w := w) (mg := mg) (base := base) F_layers G_stepped_back (PySem.W.mg_of X G a_stepped_back) k_stepped_back b_stepped_back (sd := slayers) v_layers
  have G_costs := walk_costs (P := l.prog) (w := w) (mg := mg) (base := base) F_costs G_layers (PySem.W.mg_of X G a_layers) k_layers b_layers (PySem.W.mg_none_of X G z_sorted) (sd := scosts) v_costs
  have G_carried := walk_carried (P := l.prog) (w := w) (mg := mg) (base := base) F_carried (PySem.W.mg_none_of X G z_enumerate) (PySem.W.mg_none_of X G z_max) (PySem.W.mg_none_of X G z_len) (sd := scarried) v_carried
  have G_followed := walk_followed (P := l.prog) (w := w) (mg := mg) (base := base) F_followed (PySem.W.mg_none_of X G z_min) (sd := sfollowed) v_followed
  have G_cheapest := walk_cheapest (P := l.prog) (w := w) (mg := mg) (base := base) F_cheapest G_followed (PySem.W.mg_of X G a_followed) k_followed b_followed G_layers (PySem.W.mg_of X G a_layers) k_layers b_layers (PySem.W.mg_none_of X G z_enumerate) (sd := scheapest) v_cheapest
  have G_cheap_thread := walk_cheap_thread (P := l.prog) (w := w) (mg := mg) (base := base) F_cheap_thread G_costs (PySem.W.mg_of X G a_costs) k_costs b_costs G_carried (PySem.W.mg_of X G a_carried) k_carried b_carried G_cheapest (PySem.W.mg_of X G a_cheapest) k_cheapest b_cheapest (PySem.W.mg_none_of X G z_range) (sd := scheap_thread) v_cheap_thread
  have G_Ring_size := walk_Ring_size (P := l.prog) (w := w) (mg := mg) (base := base) F_Ring_size n_Ring_rank_list cl_Ring (PySem.W.mg_none_of X G z_len) (sd := (sRing_size C_Ring)) v_Ring_size
  have G_back := walk_back (P := l.prog) (w := w) (mg := mg) (base := base) F_back (PySem.W.mg_none_of X G z_tuple) (PySem.W.mg_none_of X G z_enumerate) (PySem.W.mg_none_of X G z_len) (sd := sback) v_back
  have G_calls_taken_back := walk_calls_taken_back (P := l.prog) (w := w) (mg := mg) (base := base) F_calls_taken_back G_back (PySem.W.mg_of X G a_back) k_back b_back (PySem.W.mg_none_of X G z_list) (PySem.W.mg_none_of X G z_range) (PySem.W.mg_none_of X G z_len) (sd := scalls_taken_back) v_calls_taken_back
  have G_Ring_rank := walk_Ring_rank (P := l.prog) (w := w) (mg := mg) (base := base) F_Ring_rank G_Ring_size b_Ring_size n_Ring_rank_list cl_Ring ⟨a_Ring_size, gt_Ring_size, tk_Ring_size, _, rc_Ring_size⟩ (sd := (sRing_rank C_Ring)) v_Ring_rank
  have G_end_of := walk_end_of (P := l.prog) (w := w) (mg := mg) (base := base) F_end_of (PySem.W.mg_none_of X G z_len) (PySem.W.mg_none_of X G z_divmod) (sd := send_of) v_end_of
  have G_barred_pass := walk_barred_pass (P := l.prog) (w := w) (mg := mg) (base := base) F_barred_pass G_Ring_size b_Ring_size G_Ring_rank b_Ring_rank G_end_of (PySem.W.mg_of X G a_end_of) k_end_of b_end_of ⟨a_Ring_size, gt_Ring_size, tk_Ring_size, _, rc_Ring_size⟩ cl_Ring ⟨a_Ring_rank, i_Ring_rank, k_Ring_rank⟩ (PySem.W.mg_none_of X G z_range) (sd := (sbarred_pass C_Ring)) v_barred_pass
  have G_decide := walk_decide (P := l.prog) (w := w) (mg := mg) (base := base) F_decide G_cheap_thread (PySem.W.mg_of X G a_cheap_thread) k_cheap_thread b_cheap_thread G_Ring_size b_Ring_size G_calls_taken_back (PySem.W.mg_of X G a_calls_taken_back) k_calls_taken_back b_calls_taken_back G_barred_pass (PySem.W.mg_of X G a_barred_pass) k_barred_pass b_barred_pass ⟨a_Ring_size, gt_Ring_size, tk_Ring_size, _, rc_Ring_size⟩ cl_Ring (sd := (sdecide C_Ring)) v_decide
  have G_is_integer := walk_is_integer (P := l.prog) (w := w) (mg := mg) (base := base) F_is_integer (PySem.W.mg_none_of X G z_isinstance) (PySem.W.mg_none_of X G z_bool) (PySem.W.mg_none_of X G z_int) (sd := sis_integer) v_is_integer
  have G_is_between := walk_is_between (P := l.prog) (w := w) (mg := mg) (base := base) F_is_between G_is_integer (PySem.W.mg_of X G a_is_integer) k_is_integer b_is_integer (sd := sis_between) v_is_between
  have G_is_size := walk_is_size (P := l.prog) (w := w) (mg := mg) (base := base) F_is_size G_is_between (PySem.W.mg_of X G a_is_between) k_is_between b_is_between (PySem.W.mg_of X G g_MOST_PLACES) (sd := sis_size) v_is_size
  have G_Ring___init__ := walk_Ring___init__ (P := l.prog) (w := w) (mg := mg) (base := base) F_Ring___init__ G_is_integer (PySem.W.mg_of X G a_is_integer) k_is_integer b_is_integer G_is_size (PySem.W.mg_of X G a_is_size) k_is_size b_is_size n_Ring_rank_list cl_Ring (PySem.W.mg_none_of X G z_list) (PySem.W.mg_none_of X G z_all) (PySem.W.mg_none_of X G z_len) (PySem.W.mg_none_of X G z_isinstance) (sd := (sRing___init__ C_Ring)) v_Ring___init__
  have G_cost := walk_cost (P := l.prog) (w := w) (mg := mg) (base := base) F_cost (PySem.W.mg_none_of X G z_len) (PySem.W.mg_none_of X G z_range) (sd := scost) v_cost
  have G_is_thread := walk_is_thread (P := l.prog) (w := w) (mg := mg) (base := base) F_is_thread G_is_integer (PySem.W.mg_of X G a_is_integer) k_is_integer b_is_integer (PySem.W.mg_none_of X G z_enumerate) (PySem.W.mg_none_of X G z_int) (PySem.W.mg_none_of X G z_abs) (PySem.W.mg_none_of X G z_all) (PySem.W.mg_none_of X G z_len) (PySem.W.mg_none_of X G z_isinstance) (PySem.W.mg_none_of X G z_list) (sd := sis_thread) v_is_thread
  have G_is_barred := walk_is_barred (P := l.prog) (w := w) (mg := mg) (base := base) F_is_barred G_Ring_rank b_Ring_rank G_end_of (PySem.W.mg_of X G a_end_of) k_end_of b_end_of G_is_integer (PySem.W.mg_of X G a_is_integer) k_is_integer b_is_integer G_is_between (PySem.W.mg_of X G a_is_between) k_is_between b_is_between G_Ring_size b_Ring_size cl_Ring ⟨a_Ring_rank, i_Ring_rank, k_Ring_rank⟩ ⟨a_Ring_size, gt_Ring_size, tk_Ring_size, _, rc_Ring_size⟩ (sd := (sis_barred C_Ring)) v_is_barred
  have G_is_reason := walk_is_reason (P := l.prog) (w := w) (mg := mg) (base := base) F_is_reason G_cost (PySem.W.mg_of X G a_cost) k_cost b_cost G_carried (PySem.W.mg_of X G a_carried) k_carried b_carried G_is_thread (PySem.W.mg_of X G a_is_thread) k_is_thread b_is_thread G_Ring_size b_Ring_size G_is_barred (PySem.W.mg_of X G a_is_barred) k_is_barred b_is_barred ⟨a_Ring_size, gt_Ring_size, tk_Ring_size, _, rc_Ring_size⟩ cl_Ring (PySem.W.mg_none_of X G z_len) (PySem.W.mg_none_of X G z_isinstance) (PySem.W.mg_none_of X G z_tuple) (sd := (sis_reason C_Ring)) v_is_reason
  have G_law_take := walk_law_take (P := l.prog) (w := w) (mg := mg) (base := base) F_law_take (PySem.W.mg_none_of X G z_len) (sd := slaw_take) v_law_take
  have G_law_mixed := walk_law_mixed (P := l.prog) (w := w) (mg := mg) (base := base) F_law_mixed G_law_take (PySem.W.mg_of X G a_law_take) k_law_take b_law_take (PySem.W.mg_none_of X G z_len) (sd := slaw_mixed) v_law_mixed
  have G_law_any_outcome := walk_law_any_outcome (P := l.prog) (w := w) (mg := mg) (base := base) F_law_any_outcome G_law_take (PySem.W.mg_of X G a_law_take) k_law_take b_law_take G_law_mixed (PySem.W.mg_of X G a_law_mixed) k_law_mixed b_law_mixed (PySem.W.mg_none_of X G z_tuple) (PySem.W.mg_none_of X G z_range) (PySem.W.mg_none_of X G z_list) (sd := slaw_any_outcome) v_law_any_outcome
  have G_law_counted := walk_law_counted (P := l.prog) (w := w) (mg := mg) (base := base) F_law_counted (PySem.W.mg_none_of X G z_len) (PySem.W.mg_none_of X G z_range) (sd := slaw_counted) v_law_counted
  have G_law_ended := walk_law_ended (P := l.prog) (w := w) (mg := mg) (base := base) F_law_ended (PySem.W.mg_none_of X G z_tuple) (PySem.W.mg_none_of X G z_range) (PySem.W.mg_none_of X G z_len) (sd := slaw_ended) v_law_ended
  have G_law_called := walk_law_called (P := l.prog) (w := w) (mg := mg) (base := base) F_law_called (PySem.W.mg_none_of X G z_len) (sd := slaw_called) v_law_called
  have G_law_standing := walk_law_standing (P := l.prog) (w := w) (mg := mg) (base := base) F_law_standing (PySem.W.mg_none_of X G z_list) (PySem.W.mg_none_of X G z_range) (sd := slaw_standing) v_law_standing
  have G_law_run := walk_law_run (P := l.prog) (w := w) (mg := mg) (base := base) F_law_run G_law_called (PySem.W.mg_of X G a_law_called) k_law_called b_law_called G_law_standing (PySem.W.mg_of X G a_law_standing) k_law_standing b_law_standing (PySem.W.mg_none_of X G z_enumerate) (PySem.W.mg_none_of X G z_len) (sd := slaw_run) v_law_run
  have G_law_run_of := walk_law_run_of (P := l.prog) (w := w) (mg := mg) (base := base) F_law_run_of (PySem.W.mg_none_of X G z_enumerate) (PySem.W.mg_none_of X G z_int) (PySem.W.mg_none_of X G z_list) (PySem.W.mg_none_of X G z_len) (sd := slaw_run_of) v_law_run_of
  have G_law_endless := walk_law_endless (P := l.prog) (w := w) (mg := mg) (base := base) F_law_endless G_law_run_of (PySem.W.mg_of X G a_law_run_of) k_law_run_of b_law_run_of G_law_standing (PySem.W.mg_of X G a_law_standing) k_law_standing b_law_standing (sd := slaw_endless) v_law_endless
  have G_law_drawn_thread := walk_law_drawn_thread (P := l.prog) (w := w) (mg := mg) (base := base) F_law_drawn_thread G_law_take (PySem.W.mg_of X G a_law_take) k_law_take b_law_take (PySem.W.mg_none_of X G z_int) (sd := slaw_drawn_thread) v_law_drawn_thread
  have G_law_schedule := walk_law_schedule (P := l.prog) (w := w) (mg := mg) (base := base) F_law_schedule G_law_take (PySem.W.mg_of X G a_law_take) k_law_take b_law_take (PySem.W.mg_none_of X G z_range) (PySem.W.mg_none_of X G z_max) (PySem.W.mg_none_of X G z_abs) (PySem.W.mg_none_of X G z_min) (sd := slaw_schedule) v_law_schedule
  have G_law_ranks := walk_law_ranks (P := l.prog) (w := w) (mg := mg) (base := base) F_law_ranks G_law_take (PySem.W.mg_of X G a_law_take) k_law_take b_law_take (PySem.W.mg_none_of X G z_int) (PySem.W.mg_none_of X G z_range) (sd := slaw_ranks) v_law_ranks
  have G_law_some_size := walk_law_some_size (P := l.prog) (w := w) (mg := mg) (base := base) F_law_some_size G_law_take (PySem.W.mg_of X G a_law_take) k_law_take b_law_take (PySem.W.mg_none_of X G z_min) (sd := slaw_some_size) v_law_some_size
  have G_law_bag := walk_law_bag (P := l.prog) (w := w) (mg := mg) (base := base) F_law_bag (PySem.W.mg_none_of X G z_abs) (sd := slaw_bag) v_law_bag
  have G_law := walk_law (P := l.prog) (w := w) (mg := mg) (base := base) F_law G_law_carried (PySem.W.mg_of X G a_law_carried) k_law_carried b_law_carried G_decide (PySem.W.mg_of X G a_decide) k_decide b_decide G_Ring___init__ b_Ring___init__ G_is_reason (PySem.W.mg_of X G a_is_reason) k_is_reason b_is_reason G_law_any_outcome (PySem.W.mg_of X G a_law_any_outcome) k_law_any_outcome b_law_any_outcome G_law_counted (PySem.W.mg_of X G a_law_counted) k_law_counted b_law_counted G_law_ended (PySem.W.mg_of X G a_law_ended) k_law_ended b_law_ended G_law_run (PySem.W.mg_of X G a_law_run) k_law_run b_law_run G_law_take (PySem.W.mg_of X G a_law_take) k_law_take b_law_take G_law_endless (PySem.W.mg_of X G a_law_endless) k_law_endless b_law_endless G_cheapest (PySem.W.mg_of X G a_cheapest) k_cheapest b_cheapest G_cost (PySem.W.mg_of X G a_cost) k_cost b_cost G_is_thread (PySem.W.mg_of X G a_is_thread) k_is_thread b_is_thread G_law_drawn_thread (PySem.W.mg_of X G a_law_drawn_thread) k_law_drawn_thread b_law_drawn_thread G_costs (PySem.W.mg_of X G a_costs) k_costs b_costs G_law_schedule (PySem.W.mg_of X G a_law_schedule) k_law_schedule b_law_schedule G_law_ranks (PySem.W.mg_of X G a_law_ranks) k_law_ranks b_law_ranks G_law_some_size (PySem.W.mg_of X G a_law_some_size) k_law_some_size b_law_some_size G_law_bag (PySem.W.mg_of X G a_law_bag) k_law_bag b_law_bag ⟨mk_Ring, a_Ring___init__, i_Ring___init__, kc_Ring⟩ (PySem.W.mg_of X G g_Ring) (PySem.W.mg_none_of X G z_range) (PySem.W.mg_none_of X G z_list) (PySem.W.mg_none_of X G z_int) (PySem.W.mg_none_of X G z_len) (sd := slaw) v_law
  exact G_law
theorem law_true : lawSp slaw := fun ns _ => law_fin ns
end LW
open PySem PySem.W PyProof.Rows
set_option maxHeartbeats 0 in
theorem PySem.Challenge.cw_ringcalls_k65_whole_no_loss_beats_a_thre_holds : PySem.Challenge.rw_ringcalls_k65_whole_no_loss_beats_a_thre.Holds := by
  w_on; o_law; k_head; (case hw => w_witness2)
  k_fill
  refine DL.walk_g (l := PySem.Challenge.rw_ringcalls_k65_whole_no_loss_beats_a_thre) (n := 63) (k := 6) (x := "_law_script") (sd := LW.slaw) rfl (by decide) rfl ⟨rfl, by decide, by decide⟩ (fun w h Y => PySem.W.kIn_of Y) ?F LW.law_true
  case F =>
    intro w mg fa h KX G hmg
    refine' LW.all_mk KX G hmg ?g_Ring ?a_law_carried ?l_law_carried ?c_law_carried ?k_law_carried ?a_stepped_back ?l_stepped_back ?c_stepped_back ?k_stepped_back ?a_layers ?l_layers ?c_layers ?k_layers ?a_costs ?l_costs ?c_costs ?k_costs ?a_carried ?l_carried ?c_carried ?k_carried ?a_followed ?l_followed ?c_followed ?k_followed ?a_cheapest ?l_cheapest ?c_cheapest ?k_cheapest ?a_cheap_thread ?l_cheap_thread ?c_cheap_thread ?k_cheap_thread ?a_Ring_size ?gt_Ring_size ?tk_Ring_size ?rc_Ring_size ?l_Ring_size ?c_Ring_size ?k_Ring_size ?a_back ?l_back ?c_back ?k_back ?a_calls_taken_back ?l_calls_taken_back ?c_calls_taken_back ?k_calls_taken_back ?a_Ring_rank ?i_Ring_rank ?l_Ring_rank ?c_Ring_rank ?k_Ring_rank ?a_end_of ?l_end_of ?c_end_of ?k_end_of ?a_barred_pass ?l_barred_pass ?c_barred_pass ?k_barred_pass ?a_decide ?l_decide ?c_decide ?k_decide ?a_is_integer ?l_is_integer ?c_is_integer ?k_is_integer ?a_is_between ?l_is_between ?c_is_between ?k_is_between ?a_is_size ?l_is_size ?c_is_size ?k_is_size ?a_Ring___init__ ?i_Ring___init__ ?l_Ring___init__ ?c_Ring___init__ ?k_Ring___init__ ?a_cost ?l_cost ?c_cost ?k_cost ?a_is_thread ?l_is_thread ?c_is_thread ?k_is_thread ?a_is_barred ?l_is_barred ?c_is_barred ?k_is_barred ?a_is_reason ?l_is_reason ?c_is_reason ?k_is_reason ?a_law_take ?l_law_take ?c_law_take ?k_law_take ?a_law_mixed ?l_law_mixed ?c_law_mixed ?k_law_mixed ?a_law_any_outcome ?l_law_any_outcome ?c_law_any_outcome ?k_law_any_outcome ?a_law_counted ?l_law_counted ?c_law_counted ?k_law_counted ?a_law_ended ?l_law_ended ?c_law_ended ?k_law_ended ?a_law_called ?l_law_called ?c_law_called ?k_law_called ?a_law_standing ?l_law_standing ?c_law_standing ?k_law_standing ?a_law_run ?l_law_run ?c_law_run ?k_law_run ?a_law_run_of ?l_law_run_of ?c_law_run_of ?k_law_run_of ?a_law_endless ?l_law_endless ?c_law_endless ?k_law_endless ?a_law_drawn_thread ?l_law_drawn_thread ?c_law_drawn_thread ?k_law_drawn_thread ?a_law_schedule ?l_law_schedule ?c_law_schedule ?k_law_schedule ?a_law_ranks ?l_law_ranks ?c_law_ranks ?k_law_ranks ?a_law_some_size ?l_law_some_size ?c_law_some_size ?k_law_some_size ?a_law_bag ?l_law_bag ?c_law_bag ?k_law_bag ?a_law ?l_law ?c_law ?k_law ?pg_Ring ?hd_Ring ?po_Ring ?sa_Ring ?n_Ring_rank_list ?mk_Ring ?kc_Ring ?z_abs ?z_all ?z_bool ?z_divmod ?z_enumerate ?z_int ?z_isinstance ?z_len ?z_list ?z_max ?z_min ?z_range ?z_sorted ?z_tuple ?g_MOST_PLACES
    (case g_Ring => k_is); (case a_law_carried => k_is); (case l_law_carried => k_is); (case c_law_carried => k_is); (case k_law_carried => k_is); (case a_stepped_back => k_is); (case l_stepped_back => k_is); (case c_stepped_back => k_is); (case k_stepped_back => k_is); (case a_layers => k_is); (case l_layers => k_is); (case c_layers => k_is); (case k_layers => k_is); (case a_costs => k_is); (case l_costs => k_is); (case c_costs => k_is); (case k_costs => k_is); (case a_carried => k_is); (case l_carried => k_is); (case c_carried => k_is); (case k_carried => k_is); (case a_followed => k_is); (case l_followed => k_is); (case c_followed => k_is); (case k_followed => k_is); (case a_cheapest => k_is); (case l_cheapest => k_is); (case c_cheapest => k_is); (case k_cheapest => k_is); (case a_cheap_thread => k_is); (case l_cheap_thread => k_is); (case c_cheap_thread => k_is); (case k_cheap_thread => k_is); (case a_Ring_size => k_is); (case gt_Ring_size => k_is); (case tk_Ring_size => k_is); (case rc_Ring_size => k_is); (case l_Ring_size => k_is); (case c_Ring_size => k_is); (case k_Ring_size => k_is); (case a_back => k_is); (case l_back => k_is); (case c_back => k_is); (case k_back => k_is); (case a_calls_taken_back => k_is); (case l_calls_taken_back => k_is); (case c_calls_taken_back => k_is); (case k_calls_taken_back => k_is); (case a_Ring_rank => k_is); (case i_Ring_rank => k_is); (case l_Ring_rank => k_is); (case c_Ring_rank => k_is); (case k_Ring_rank => k_is); (case a_end_of => k_is); (case l_end_of => k_is); (case c_end_of => k_is); (case k_end_of => k_is); (case a_barred_pass => k_is); (case l_barred_pass => k_is); (case c_barred_pass => k_is); (case k_barred_pass => k_is); (case a_decide => k_is); (case l_decide => k_is); (case c_decide => k_is); (case k_decide => k_is); (case a_is_integer => k_is); (case l_is_integer => k_is); (case c_is_integer => k_is); (case k_is_integer => k_is); (case a_is_between => k_is); (case l_is_between => k_is); (case c_is_between => k_is); (case k_is_between => k_is); (case a_is_size => k_is); (case l_is_size => k_is); (case c_is_size => k_is); (case k_is_size => k_is); (case a_Ring___init__ => k_is); (case i_Ring___init__ => k_is); (case l_Ring___init__ => k_is); (case c_Ring___init__ => k_is); (case k_Ring___init__ => k_is); (case a_cost => k_is); (case l_cost => k_is); (case c_cost => k_is); (case k_cost => k_is); (case a_is_thread => k_is); (case l_is_thread => k_is); (case c_is_thread => k_is); (case k_is_thread => k_is); (case a_is_barred => k_is); (case l_is_barred => k_is); (case c_is_barred => k_is); (case k_is_barred => k_is); (case a_is_reason => k_is); (case l_is_reason => k_is); (case c_is_reason => k_is); (case k_is_reason => k_is); (case a_law_take => k_is); (case l_law_take => k_is); (case c_law_take => k_is); (case k_law_take => k_is); (case a_law_mixed => k_is); (case l_law_mixed => k_is); (case c_law_mixed => k_is); (case k_law_mixed => k_is); (case a_law_any_outcome => k_is); (case l_law_any_outcome => k_is); (case c_law_any_outcome => k_is); (case k_law_any_outcome => k_is); (case a_law_counted => k_is); (case l_law_counted => k_is); (case c_law_counted => k_is); (case k_law_counted => k_is); (case a_law_ended => k_is); (case l_law_ended => k_is); (case c_law_ended => k_is); (case k_law_ended => k_is); (case a_law_called => k_is); (case l_law_called => k_is); (case c_law_called => k_is); (case k_law_called => k_is); (case a_law_standing => k_is); (case l_law_standing => k_is); (case c_law_standing => k_is); (case k_law_standing => k_is); (case a_law_run => k_is); (case l_law_run => k_is); (case c_law_run => k_is); (case k_law_run => k_is); (case a_law_run_of => k_is); (case l_law_run_of => k_is); (case c_law_run_of => k_is); (case k_law_run_of => k_is); (case a_law_endless => k_is); (case l_law_endless => k_is); (case c_law_endless => k_is); (case k_law_endless => k_is); (case a_law_drawn_thread => k_is); (case l_law_drawn_thread => k_is); (case c_law_drawn_thread => k_is); (case k_law_drawn_thread => k_is); (case a_law_schedule => k_is); (case l_law_schedule => k_is); (case c_law_schedule => k_is); (case k_law_schedule => k_is); (case a_law_ranks => k_is); (case l_law_ranks => k_is); (case c_law_ranks => k_is); (case k_law_ranks => k_is); (case a_law_some_size => k_is); (case l_law_some_size => k_is); (case c_law_some_size => k_is); (case k_law_some_size => k_is); (case a_law_bag => k_is); (case l_law_bag => k_is); (case c_law_bag => k_is); (case k_law_bag => k_is); (case a_law => k_is); (case l_law => k_is); (case c_law => k_is); (case k_law => k_is); (case pg_Ring => k_is); (case hd_Ring => k_is); (case po_Ring => k_is); (case sa_Ring => k_is); (case n_Ring_rank_list => k_is); (case mk_Ring => k_is); (case kc_Ring => k_is); (case z_abs => k_is); (case z_all => k_is); (case z_bool => k_is); (case z_divmod => k_is); (case z_enumerate => k_is); (case z_int => k_is); (case z_isinstance => k_is); (case z_len => k_is); (case z_list => k_is); (case z_max => k_is); (case z_min => k_is); (case z_range => k_is); (case z_sorted => k_is); (case z_tuple => k_is); (case g_MOST_PLACES => k_is)
