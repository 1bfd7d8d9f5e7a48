import PyProof.Rows.All
import Wide.All
import OpenK.AllK
import Wide.FinOn
import HandS.Base
import HandS.Call
import HandS.List
import HandS.Words
import HandS.Wide
import HandS.IsInst
import HandS.Comp
import PyProof.Rows.RuleB_pow
import HandS.Style
import KE.KTupSum
import HandS.WordsDict
import HandS.SortInts
import HandS.More
import HandS.Conv
import HandS.Text
import HandS.RaiseMore
import PyProof.MaxThree
import HandS.TupAny
import HandS.Iter
import HandS.Flow
import HandS.WordsExc
import HandS.Ends
import HandS.Dict
import PyProof.ReprRoads
import HandS.Deep
import KE.GoesEnum
import PyProof.EnumMake
import HandS.Property
import HandS.ClsMeth
import HandS.OwnEq
import HandS.CallRecv
import HandS.CallLocal
import PyProof.InstNe
import HandS.Strs
import HandS.SetFor
import PyProof.Rows.SetFrom
import PyProof.InstSpecial
import KE.KFmtOwn
import HandS.FStr
import HandS.Rev
import HandS.Zip
import HandS.Defaults
import HandS.ExcOwn
import HandS.ExcInit
import HandS.ExcField
import HandS.ExcIs
import HandS.TryOnly
import KE.KExcIs
import HandS.GenList
import PyProof.ForAny
import HandS.NoneIn
import HandS.SortRule
import HandS.TupLe
import KE.DataMinMax
import HandS.ListItems
import HandS.TupMul
import PyProof.Rows.TupDisplay
import HandS.DictTup
import HandS.TupSets
import KE.KIntText
import PySem.Challenge.RW_ringcalls_k56_whole_nobody_slower_than_w
set_option Elab.async false
set_option linter.all false
set_option maxRecDepth 100000
/-! the data layer, part 1: data, what stands for them, slots, what holds between them and the abstract heap -/
namespace DL
open PySem L2
abbrev Fg := PySem.W.Frag
/-- data: values as trees -/
inductive D where
  | non
  | bl (b : Bool)
  | int (i : Int)
  | str (s : Str)
  | lst (ds : List D)
  | scr (ds : List D)
  | tup (ds : List D)
  | dic (kvs : List (Key × D))
  | dit (kvs : List (List Key × D))
  | dkl (kvs : List (Key × D))
  | dtl (kvs : List (List Key × D))
  | pnK (o : Obj) (kvs : List (Key × V))
  | pnT (o : Obj) (kvs : List (List Key × V))
  | obj (C : Addr) (ns : List Str) (ds : List D)
  | cls (C : Addr)
  | xcl (c : Value) (n : Str)
/-- the class that a name of the module stands for -/
def XNm (K : Fg) (n : Str) (c : Addr) : Prop := PySem.W.nsIn K mainGlobals n = some (some (.ref c))
mutual
inductive Rep (K : Fg) (H : Hp) : V → D → Prop
  | non : Rep K H .non .non
  | bl (b : Bool) : Rep K H (.bl b) (.bl b)
  | int (i : Int) : Rep K H (.int i) (.int i)
  | str (x : Str) : Rep K H (.str x) (.str x)
  | cls (C : Addr) : Rep K H (.ref C) (.cls C)
  | xcl {c : Addr} {n : Str} : XNm K n c → Rep K H (.int 0) (.xcl (.ref c) n)
  | lst {a : Addr} {vs : List V} {ds : List D} : H a = some (.lst vs) → Reps K H vs ds → Rep K H (.ref a) (.lst ds)
  | scr {a : Addr} {vs : List V} {ds : List D} : SqL K H a vs → Reps K H vs ds → Rep K H (.ref a) (.scr ds)
  | tup {a : Addr} {vs : List V} {ds : List D} : H a = some (.tup vs) → Reps K H vs ds → Rep K H (.ref a) (.tup ds)
  | dic {a : Addr} {kvs : List (Key × V)} {dks : List (Key × D)} : H a = some (.dK kvs) → RepK K H kvs dks → Rep K H (.ref a) (.dic dks)
  | dit {a : Addr} {kvs : List (List Key × V)} {dks : List (List Key × D)} : H a = some (.dT kvs) → RepT K H kvs dks → Rep K H (.ref a) (.dit dks)
  | dkl {a : Addr} {o : Obj} {kvs : List (Key × V)} {dks : List (Key × D)} : H a = some (.frz o (.dK kvs)) → RepK K H kvs dks → Rep K H (.ref a) (.dkl dks)
  | dtl {a : Addr} {o : Obj} {kvs : List (List Key × V)} {dks : List (List Key × D)} : H a = some (.frz o (.dT kvs)) → RepT K H kvs dks → Rep K H (.ref a) (.dtl dks)
  | pnK {a : Addr} {o : Obj} {kvs : List (Key × V)} : H a = some (.frz o (.dK kvs)) → Rep K H (.ref a) (.pnK o kvs)
  | pnT {a : Addr} {o : Obj} {kvs : List (List Key × V)} : H a = some (.frz o (.dT kvs)) → Rep K H (.ref a) (.pnT o kvs)
  | obj {a C dx : Addr} {fs : List (Str × V)} {ns : List Str} {ds : List D} : H a = some (.ins C dx fs) → fs.map (·.1) = ns → Reps K H (fs.map (·.2)) ds → Rep K H (.ref a) (.obj C ns ds)
inductive Reps (K : Fg) (H : Hp) : List V → List D → Prop
  | nil : Reps K H [] []
  | cons {v : V} {vs : List V} {d : D} {ds : List D} : Rep K H v d → Reps K H vs ds → Reps K H (v :: vs) (d :: ds)
inductive RepK (K : Fg) (H : Hp) : List (Key × V) → List (Key × D) → Prop
  | nil : RepK K H [] []
  | cons {k : Key} {v : V} {d : D} {vs : List (Key × V)} {ds : List (Key × D)} : Rep K H v d → RepK K H vs ds → RepK K H ((k, v) :: vs) ((k, d) :: ds)
inductive RepT (K : Fg) (H : Hp) : List (List Key × V) → List (List Key × D) → Prop
  | nil : RepT K H [] []
  | cons {k : List Key} {v : V} {d : D} {vs : List (List Key × V)} {ds : List (List Key × D)} : Rep K H v d → RepT K H vs ds → RepT K H ((k, v) :: vs) ((k, d) :: ds)
end
section
variable {K : Fg} {H H' : Hp}
mutual
theorem Rep.mono (e : Same H H') : ∀ {v : V} {d : D}, Rep K H v d → Rep K H' v d
  | _, _, .non => .non
  | _, _, .bl b => .bl b
  | _, _, .int i => .int i
  | _, _, .str x => .str x
  | _, _, .cls C => .cls C
  | _, _, .xcl h => .xcl h
  | _, _, .lst h r => .lst (e _ _ h) (Reps.mono e r)
  | _, _, .scr h r => .scr (L2.Same.seq e h) (Reps.mono e r)
  | _, _, .tup h r => .tup (e _ _ h) (Reps.mono e r)
  | _, _, .dic h r => .dic (e _ _ h) (RepK.mono e r)
  | _, _, .dit h r => .dit (e _ _ h) (RepT.mono e r)
  | _, _, .dkl h r => .dkl (e _ _ h) (RepK.mono e r)
  | _, _, .dtl h r => .dtl (e _ _ h) (RepT.mono e r)
  | _, _, .pnK h => .pnK (e _ _ h)
  | _, _, .pnT h => .pnT (e _ _ h)
  | _, _, .obj h n r => .obj (e _ _ h) n (Reps.mono e r)
theorem Reps.mono (e : Same H H') : ∀ {vs : List V} {ds : List D}, Reps K H vs ds → Reps K H' vs ds
  | _, _, .nil => .nil
  | _, _, .cons h r => .cons (Rep.mono e h) (Reps.mono e r)
theorem RepK.mono (e : Same H H') : ∀ {vs : List (Key × V)} {ds : List (Key × D)}, RepK K H vs ds → RepK K H' vs ds
  | _, _, .nil => .nil
  | _, _, .cons h r => .cons (Rep.mono e h) (RepK.mono e r)
theorem RepT.mono (e : Same H H') : ∀ {vs : List (List Key × V)} {ds : List (List Key × D)}, RepT K H vs ds → RepT K H' vs ds
  | _, _, .nil => .nil
  | _, _, .cons h r => .cons (Rep.mono e h) (RepT.mono e r)
end
theorem Reps.length : ∀ {vs : List V} {ds : List D}, Reps K H vs ds → vs.length = ds.length
  | _, _, .nil => rfl
  | _, _, .cons _ r => by rw [List.length_cons, List.length_cons, Reps.length r]
theorem Reps.get : ∀ {vs : List V} {ds : List D} {i : Nat} {d : D}, Reps K H vs ds → ds[i]? = some d → ∃ v, vs[i]? = some v ∧ Rep K H v d
  | _, _, _, _, .nil, e => by simp at e
  | _, _, 0, _, .cons h _, e => by simp at e; subst e; exact ⟨_, rfl, h⟩
  | _, _, i + 1, d, .cons _ r, e => by
    obtain ⟨v, h1, h2⟩ := Reps.get (i := i) (d := d) r (by simpa using e)
    exact ⟨v, by simpa using h1, h2⟩
theorem Reps.getV : ∀ {vs : List V} {ds : List D} {i : Nat} {v : V}, Reps K H vs ds → vs[i]? = some v → ∃ d, ds[i]? = some d ∧ Rep K H v d
  | _, _, _, _, .nil, e => by simp at e
  | _, _, 0, _, .cons h _, e => by simp at e; subst e; exact ⟨_, rfl, h⟩
  | _, _, i + 1, d, .cons _ r, e => by
    obtain ⟨v, h1, h2⟩ := Reps.getV (i := i) (v := d) r (by simpa using e)
    exact ⟨v, by simpa using h1, h2⟩
theorem Reps.append : ∀ {vs ws : List V} {ds es : List D}, Reps K H vs ds → Reps K H ws es → Reps K H (vs ++ ws) (ds ++ es)
  | _, _, _, _, .nil, s => s
  | _, _, _, _, .cons h r, s => .cons h (Reps.append r s)
theorem Reps.take : ∀ {vs : List V} {ds : List D} (n : Nat), Reps K H vs ds → Reps K H (vs.take n) (ds.take n)
  | _, _, 0, _ => .nil
  | _, _, _ + 1, .nil => .nil
  | _, _, n + 1, .cons h r => .cons h (Reps.take n r)
theorem Reps.drop : ∀ {vs : List V} {ds : List D} (n : Nat), Reps K H vs ds → Reps K H (vs.drop n) (ds.drop n)
  | _, _, 0, r => r
  | _, _, _ + 1, .nil => .nil
  | _, _, n + 1, .cons _ r => Reps.drop n r
theorem Reps.set {v : V} {d : D} (h : Rep K H v d) : ∀ {vs : List V} {ds : List D} (n : Nat), Reps K H vs ds → Reps K H (vs.set n v) (ds.set n d)
  | _, _, _, .nil => .nil
  | _, _, 0, .cons _ r => .cons h r
  | _, _, n + 1, .cons g r => .cons g (Reps.set h n r)
theorem Reps.reverse : ∀ {vs : List V} {ds : List D}, Reps K H vs ds → Reps K H vs.reverse ds.reverse
  | _, _, .nil => .nil
  | _, _, .cons h r => by rw [List.reverse_cons, List.reverse_cons]; exact Reps.append (Reps.reverse r) (.cons h .nil)
theorem Reps.dropLast : ∀ {vs : List V} {ds : List D}, Reps K H vs ds → Reps K H vs.dropLast ds.dropLast
  | _, _, .nil => .nil
  | _, _, .cons _ .nil => .nil
  | _, _, .cons h (.cons g r) => .cons h (Reps.dropLast (.cons g r))
theorem Reps.eraseIdx : ∀ {vs : List V} {ds : List D} (i : Nat), Reps K H vs ds → Reps K H (vs.eraseIdx i) (ds.eraseIdx i)
  | _, _, _, .nil => .nil
  | _, _, 0, .cons _ r => r
  | _, _, i + 1, .cons h r => .cons h (Reps.eraseIdx i r)
theorem Reps.rep {vs : List V} {ds : List D} (h : Reps K H vs ds) : ∀ k : Nat, Reps K H (List.replicate k vs).flatten (List.replicate k ds).flatten
  | 0 => .nil
  | k + 1 => by
    rw [List.replicate_succ, List.replicate_succ, List.flatten_cons, List.flatten_cons]
    exact Reps.append h (Reps.rep h k)
theorem Reps.ints : ∀ {ns : List Int} {vs : List V}, Reps K H vs (ns.map D.int) → vs = ns.map V.int
  | [], _, .nil => rfl
  | n :: ns, _, .cons h r => by
    cases h
    rw [Reps.ints r]; rfl
theorem Reps.of_ints : ∀ (ns : List Int), Reps K H (ns.map V.int) (ns.map D.int)
  | [] => .nil
  | n :: ns => .cons (.int n) (Reps.of_ints ns)
theorem Reps.bls : ∀ {ns : List Bool} {vs : List V}, Reps K H vs (ns.map D.bl) → vs = ns.map V.bl
  | [], _, .nil => rfl
  | n :: ns, _, .cons h r => by
    cases h
    rw [Reps.bls r]; rfl
end
/-- the abstract heap without the owned addresses -/
def hide (O : List Addr) (H : Hp) : Hp := fun a => if a ∈ O then none else H a
section
variable {O O' : List Addr} {H H' : Hp} {a p : Addr} {o : HO}
theorem hide_out (h : a ∉ O) : hide O H a = H a := if_neg h
theorem hide_some (h : hide O H a = some o) : a ∉ O ∧ H a = some o := by
  unfold hide at h
  split at h
  · cases h
  · rename_i n; exact ⟨n, h⟩
theorem hide_same : Same (hide O H) H := fun _ _ h => (hide_some h).2
theorem hide_sub (h : ∀ a, a ∈ O → a ∈ O') : Same (hide O' H) (hide O H) := fun b u e => by
  obtain ⟨n, e⟩ := hide_some e
  rw [hide_out fun z => n (h b z)]; exact e
theorem hide_cons_sub : Same (hide (p :: O) H) (hide O H) := hide_sub fun _ h => List.mem_cons_of_mem _ h
theorem hide_new (h : H p = none) : Same (hide O H) (hide O (upd H p o)) := fun b u e => by
  obtain ⟨n, e⟩ := hide_some e
  rw [hide_out n, upd_ne (ne_of_none e h)]; exact e
theorem hide_newO (h : H p = none) : Same (hide O H) (hide (p :: O) (upd H p o)) := fun b u e => by
  obtain ⟨n, e⟩ := hide_some e
  have hb : b ≠ p := ne_of_none e h
  rw [hide_out (fun z => (List.mem_cons.mp z).elim hb n), upd_ne hb]; exact e
theorem hide_mut (h : p ∈ O) : hide O (upd H p o) = hide O H := by
  funext b
  unfold hide
  split
  · rfl
  · rename_i n
    exact upd_ne fun z => n (z ▸ h)
end
/-- the content of an owned object -/
inductive OwnOk (K : Fg) (H : Hp) : HO → D → Prop
  | lst {vs : List V} {ds : List D} : Reps K H vs ds → OwnOk K H (.lst vs) (.lst ds)
  | dic {kvs : List (Key × V)} {dks : List (Key × D)} : RepK K H kvs dks → OwnOk K H (.dK kvs) (.dic dks)
  | dit {kvs : List (List Key × V)} {dks : List (List Key × D)} : RepT K H kvs dks → OwnOk K H (.dT kvs) (.dit dks)
  | obj {C dx : Addr} {fs : List (Str × V)} {ns : List Str} {ds : List D} : fs.map (·.1) = ns → Reps K H (fs.map (·.2)) ds → OwnOk K H (.ins C dx fs) (.obj C ns ds)
theorem OwnOk.mono {K : Fg} {H H' : Hp} {o : HO} {d : D} (e : Same H H') : OwnOk K H o d → OwnOk K H' o d
  | .lst r => .lst (Reps.mono e r)
  | .dic r => .dic (RepK.mono e r)
  | .dit r => .dit (RepT.mono e r)
  | .obj n r => .obj n (Reps.mono e r)
theorem OwnOk.rep {K : Fg} {H : Hp} {o : HO} {d : D} {a : Addr} (h : H a = some o) : OwnOk K H o d → Rep K H (.ref a) d
  | .lst r => .lst h r
  | .dic r => .dic h r
  | .dit r => .dit h r
  | .obj n r => .obj h n r
/-- things that are pinned: a value, own cells with what stands in them, values that are shared -/
structure Pin where
  v : V
  cs : List (Addr × HO)
  ts : List (V × D)
/-- what a variable holds: nothing that is known; a datum that is shared (and so never changes); an own object; a parameter's object that may change; a parameter's value that is only looked at -/
inductive Sl where
  | no
  | sh (d : D)
  | ow (d : D)
  | io (d : D)
  | bo (d : D)
  | pn (b : Bool) (P : Pin)
abbrev Env := List Sl
/-- what a pinned cell may hold -/
def Pk : HO → Prop
  | .lst _ => True
  | .dK _ => True
  | .dT _ => True
  | .ins _ _ _ => True
  | _ => False
/-- what stays the same through a def's body -/
structure Ctx where
  K : Fg
  H0 : Hp
  O0 : List Addr
  M : List (Nat × Addr)
  B : List (Nat × V)
  T : List (V × D)
  U : List (Addr × HO)
  N : List Nat
def SlOk (C : Ctx) (O : List Addr) (σ : St) (H : Hp) (i : Nat) : Sl → Prop
  | .no => True
  | .sh d => ∃ v, σ[i]? = some (some v) ∧ Rep C.K (hide O H) v d
  | .ow d => ∃ l o, σ[i]? = some (some (.ref l)) ∧ l ∈ O ∧ C.H0 l = none ∧ H l = some o ∧ OwnOk C.K (hide O H) o d
  | .io d => ∃ l o, σ[i]? = some (some (.ref l)) ∧ (i, l) ∈ C.M ∧ l ∈ O ∧ H l = some o ∧ OwnOk C.K (hide O H) o d
  | .bo d => ∃ v, σ[i]? = some (some v) ∧ (i, v) ∈ C.B ∧ (Rep C.K (hide O H) v d ∨ ∃ l o, v = .ref l ∧ C.H0 l = some o ∧ (∀ p ∈ C.M, p.2 ≠ l) ∧ OwnOk C.K (hide O H) o d)
  | .pn b P => σ[i]? = some (some P.v) ∧ (∀ c ∈ P.cs, c.1 ∈ O ∧ H c.1 = some c.2 ∧ (C.H0 c.1 = none ∨ (b = true ∧ (i, c.1) ∈ C.M)) ∧ Pk c.2) ∧ ∀ t ∈ P.ts, Rep C.K (hide O H) t.1 t.2
/-- slot i may be changed in place, and stands at a -/
def MutAt (Γ : Env) (σ : St) (i : Nat) (a : Addr) : Prop := ((∃ d, Γ[i]? = some (.ow d) ∨ Γ[i]? = some (.io d)) ∧ σ[i]? = some (some (.ref a))) ∨ ∃ b P o, Γ[i]? = some (.pn b P) ∧ (a, o) ∈ P.cs
/-- what an own object may be: no tuple -/
def Tk : Option HO → Prop
  | none => False
  | some (.tup _) => False
  | some _ => True
theorem Tk.ne {o : Option HO} (h : Tk o) : o ≠ none := fun z => by rw [z] at h; exact h
theorem OwnOk.tk {K : Fg} {H : Hp} {o : HO} {d : D} (h : OwnOk K H o d) : Tk (some o) := by cases h <;> trivial
structure RelO (C : Ctx) (Γ : Env) (O : List Addr) (σ : St) (H : Hp) : Prop where
  sl : ∀ i s, Γ[i]? = some s → SlOk C O σ H i s
  ds : ∀ i j a, i ≠ j → MutAt Γ σ i a → MutAt Γ σ j a → False
  fr : ∀ a o, C.H0 a = some o → (∀ p ∈ C.M, p.2 ≠ a) → H a = some o
  mm : ∀ p ∈ C.M, (σ[p.1]? = some (some (.ref p.2)) ∧ ∃ d, Γ[p.1]? = some (.io d)) ∨ (p.1 ∈ C.N ∧ p.2 ∈ C.O0 ∧ ∃ P, Γ[p.1]? = some (.pn true P))
  bb : ∀ p ∈ C.B, σ[p.1]? = some (some p.2) ∧ ∃ d, Γ[p.1]? = some (.bo d)
  oo : ∀ a ∈ C.O0, a ∈ O
  al : ∀ a ∈ O, Tk (H a)
  ol : ∀ a ∈ O, a ∈ C.O0 ∨ C.H0 a = none
  o0 : ∀ a ∈ C.O0, C.H0 a ≠ none
  tt : ∀ p ∈ C.T, Rep C.K (hide O H) p.1 p.2
  uu : ∀ q ∈ C.U, H q.1 = some q.2 ∧ q.1 ∈ O ∧ ∀ i, ¬ MutAt Γ σ i q.1
  len : Γ.length = σ.length
section
variable {C : Ctx} {Γ : Env} {O : List Addr} {σ : St} {H H' : Hp} {i : Nat} {d : D} {p : Addr} {o : HO} {v : V}
theorem SlOk.mono {s : Sl} (e : Same (hide O H) (hide O H')) (k : ∀ l o, l ∈ O → H l = some o → H' l = some o) : SlOk C O σ H i s → SlOk C O σ H' i s := by
  cases s with
  | no => exact fun _ => trivial
  | sh d => exact fun ⟨v, h1, h2⟩ => ⟨v, h1, h2.mono e⟩
  | ow d => exact fun ⟨l, o, h1, h2, h3, h4, h5⟩ => ⟨l, o, h1, h2, h3, k l o h2 h4, h5.mono e⟩
  | io d => exact fun ⟨l, o, h1, h2, h3, h4, h5⟩ => ⟨l, o, h1, h2, h3, k l o h3 h4, h5.mono e⟩
  | bo d =>
    intro ⟨v, h1, h2, h3⟩
    refine ⟨v, h1, h2, ?_⟩
    rcases h3 with h3 | ⟨l, o, h3, h4, h5, h6⟩
    · exact .inl (h3.mono e)
    · exact .inr ⟨l, o, h3, h4, h5, h6.mono e⟩
  | pn b P => exact fun ⟨h1, h2, h3⟩ => ⟨h1, fun c hc => ⟨(h2 c hc).1, k _ _ (h2 c hc).1 (h2 c hc).2.1, (h2 c hc).2.2⟩, fun t ht => (h3 t ht).mono e⟩
theorem RelO.notin (R : RelO C Γ O σ H) (h : H p = none) : p ∉ O := fun z => (R.al p z).ne h
theorem RelO.fresh0 (R : RelO C Γ O σ H) (h : H p = none) : C.H0 p = none := by
  cases e : C.H0 p with
  | none => rfl
  | some o =>
    by_cases hm : ∀ q ∈ C.M, q.2 ≠ p
    · rw [R.fr p o e hm] at h; cases h
    · exfalso
      apply hm
      intro q hq z
      rcases R.mm q hq with ⟨h1, d, h2⟩ | ⟨_, h2, _⟩
      · obtain ⟨l, o, h3, _, h4, h5, _⟩ := R.sl q.1 _ h2
        rw [h1] at h3
        cases h3
        rw [z, h] at h5; cases h5
      · exact (R.al _ (R.oo _ h2)).ne (by rw [z]; exact h)
/-- a new object is laid -/
theorem RelO.alloc (R : RelO C Γ O σ H) (h : H p = none) : RelO C Γ O σ (upd H p o) := by
  have k : ∀ l u, l ∈ O → H l = some u → upd H p o l = some u := fun l u _ e => by rw [upd_ne (ne_of_none e h)]; exact e
  refine ⟨fun i s e => (R.sl i s e).mono (hide_new h) k, R.ds, fun a u e n => ?_, R.mm, R.bb, R.oo, fun a ha => ?_, R.ol, R.o0, fun p hp => (R.tt p hp).mono (hide_new h), fun q hq => ⟨by rw [upd_ne (ne_of_none (R.uu q hq).1 h)]; exact (R.uu q hq).1, (R.uu q hq).2⟩, R.len⟩
  · have := R.fr a u e n
    rw [upd_ne (ne_of_none this h)]; exact this
  · have := R.al a ha
    rw [upd_ne fun z => this.ne (by rw [z]; exact h)]; exact this
/-- .. and owned -/
theorem RelO.allocO (R : RelO C Γ O σ H) (h : H p = none) (ht : Tk (some o) := by trivial) : RelO C Γ (p :: O) σ (upd H p o) := by
  have e : Same (hide O H) (hide (p :: O) (upd H p o)) := hide_newO h
  have k : ∀ l u, H l = some u → upd H p o l = some u := fun l u e => by rw [upd_ne (ne_of_none e h)]; exact e
  refine ⟨fun i s es => ?_, R.ds, fun a u e n => k a u (R.fr a u e n), R.mm, R.bb, fun a ha => List.mem_cons_of_mem _ (R.oo a ha), fun a ha => ?_, fun a ha => ?_, R.o0, fun p hp => (R.tt p hp).mono e, fun q hq => ⟨k _ _ (R.uu q hq).1, List.mem_cons_of_mem _ (R.uu q hq).2.1, (R.uu q hq).2.2⟩, R.len⟩
  · have q := R.sl i s es
    cases s with
    | no => trivial
    | sh d => obtain ⟨v, h1, h2⟩ := q; exact ⟨v, h1, h2.mono e⟩
    | ow d => obtain ⟨l, u, h1, h2, h3, h4, h5⟩ := q; exact ⟨l, u, h1, List.mem_cons_of_mem _ h2, h3, k l u h4, h5.mono e⟩
    | io d => obtain ⟨l, u, h1, h2, h3, h4, h5⟩ := q; exact ⟨l, u, h1, h2, List.mem_cons_of_mem _ h3, k l u h4, h5.mono e⟩
    | bo d =>
      obtain ⟨v, h1, h2, h3⟩ := q
      refine ⟨v, h1, h2, ?_⟩
      rcases h3 with h3 | ⟨l, u, h3, h4, h5, h6⟩
      · exact .inl (h3.mono e)
      · exact .inr ⟨l, u, h3, h4, h5, h6.mono e⟩
    | pn b P => exact ⟨q.1, fun c hc => ⟨List.mem_cons_of_mem _ (q.2.1 c hc).1, k _ _ (q.2.1 c hc).2.1, (q.2.1 c hc).2.2⟩, fun t ht => (q.2.2 t ht).mono e⟩
  · rcases List.mem_cons.mp ha with z | z
    · rw [z, upd_same]; exact ht
    · have := R.al a z
      rw [upd_ne fun z => this.ne (by rw [z]; exact h)]; exact this
  · rcases List.mem_cons.mp ha with z | z
    · exact .inr (z ▸ R.fresh0 h)
    · exact R.ol a z
/-- a slot that may be stored to -/
def Free (Γ : Env) (i : Nat) : Prop := (∀ d, Γ[i]? ≠ some (.io d)) ∧ (∀ d, Γ[i]? ≠ some (.bo d)) ∧ ∀ P, Γ[i]? ≠ some (.pn true P)
theorem get_set_same {α : Type} {l : List α} {i : Nat} {x y : α} (h : (l.set i x)[i]? = some y) : x = y := by
  rw [List.getElem?_set_self' ] at h
  cases e : l[i]? with
  | none => rw [e] at h; cases h
  | some z => rw [e] at h; exact Option.some.inj h
theorem get_set_ne {α : Type} {l : List α} {i j : Nat} {x : α} (h : i ≠ j) : (l.set i x)[j]? = l[j]? := List.getElem?_set_ne h
theorem SlOk.other {j : Nat} {s : Sl} {x : Option V} (h : i ≠ j) : SlOk C O σ H j s → SlOk C O (σ.set i x) H j s := by
  have e : (σ.set i x)[j]? = σ[j]? := get_set_ne h
  cases s with
  | no => exact id
  | sh d => unfold SlOk; rw [e]; exact id
  | ow d => unfold SlOk; rw [e]; exact id
  | io d => unfold SlOk; rw [e]; exact id
  | bo d => unfold SlOk; rw [e]; exact id
  | pn b P => unfold SlOk; rw [e]; exact id
theorem MutAt.other {j : Nat} {s : Sl} {x : Option V} {a : Addr} (h : i ≠ j) : MutAt (Γ.set i s) (σ.set i x) j a → MutAt Γ σ j a := by
  unfold MutAt
  rw [get_set_ne h, get_set_ne h]; exact id
theorem RelO.set (R : RelO C Γ O σ H) (f : Free Γ i) {s : Sl} {x : Option V} (hs : i < σ.length → SlOk C O (σ.set i x) H i s) (hd : ∀ j a, i ≠ j → MutAt Γ σ j a → MutAt (Γ.set i s) (σ.set i x) i a → False) (hu : ∀ q ∈ C.U, ¬ MutAt (Γ.set i s) (σ.set i x) i q.1) : RelO C (Γ.set i s) O (σ.set i x) H := by
  refine ⟨fun j t e => ?_, fun j k a n h1 h2 => ?_, R.fr, fun p hp => ?_, fun p hp => ?_, R.oo, R.al, R.ol, R.o0, R.tt, fun q hq => ⟨(R.uu q hq).1, (R.uu q hq).2.1, fun j hj => ?_⟩, by rw [List.length_set, List.length_set]; exact R.len⟩
  · by_cases h : i = j
    · subst h
      have hl : i < σ.length := by
        have := (List.getElem?_eq_some_iff.mp e).1
        rw [List.length_set] at this
        rw [← R.len]; exact this
      have := get_set_same e
      subst this
      exact hs hl
    · rw [get_set_ne h] at e
      exact (R.sl j t e).other h
  · by_cases h : i = j
    · subst h
      exact hd k a n (h2.other n) h1
    · by_cases h' : i = k
      · subst h'
        exact hd j a h (h1.other h) h2
      · exact R.ds j k a n (h1.other h) (h2.other h')
  · rcases R.mm p hp with ⟨h1, d, h2⟩ | ⟨h0, h1, P, h2⟩
    · have ne : i ≠ p.1 := fun z => f.1 d (by rw [z]; exact h2)
      exact .inl ⟨by rw [get_set_ne ne]; exact h1, d, by rw [get_set_ne ne]; exact h2⟩
    · have ne : i ≠ p.1 := fun z => f.2.2 P (by rw [z]; exact h2)
      exact .inr ⟨h0, h1, P, by rw [get_set_ne ne]; exact h2⟩
  · obtain ⟨h1, d, h2⟩ := R.bb p hp
    have ne : i ≠ p.1 := fun z => f.2.1 d (by rw [z]; exact h2)
    exact ⟨by rw [get_set_ne ne]; exact h1, d, by rw [get_set_ne ne]; exact h2⟩
  · by_cases h : i = j
    · subst h
      exact hu q hq hj
    · exact (R.uu q hq).2.2 j (hj.other h)
theorem notMut_sh {x : Option V} {a : Addr} : ¬ MutAt (Γ.set i (.sh d)) (σ.set i x) i a := fun h => by
  rcases h with ⟨⟨d', h | h⟩, _⟩ | ⟨b, P, o, h, _⟩ <;> cases get_set_same h
theorem notMut_no {x : Option V} {a : Addr} : ¬ MutAt (Γ.set i .no) (σ.set i x) i a := fun h => by
  rcases h with ⟨⟨d', h | h⟩, _⟩ | ⟨b, P, o, h, _⟩ <;> cases get_set_same h
theorem MutAt.ow2 {τ : St} {a : Addr} (h : MutAt (Γ.set i (.ow d)) τ i a) : τ[i]? = some (some (.ref a)) := by
  rcases h with ⟨_, h⟩ | ⟨b, P, o, h, _⟩
  · exact h
  · cases get_set_same h
theorem RelO.setSh (R : RelO C Γ O σ H) (f : Free Γ i) (r : Rep C.K (hide O H) v d) : RelO C (Γ.set i (.sh d)) O (σ.set i (some v)) H :=
  R.set f (fun hl => ⟨v, List.getElem?_set_self hl, r⟩) (fun j a _ _ h => notMut_sh h) fun _ _ => notMut_sh
theorem RelO.setNo (R : RelO C Γ O σ H) (f : Free Γ i) (x : Option V) : RelO C (Γ.set i .no) O (σ.set i x) H :=
  R.set f (fun _ => trivial) (fun j a _ _ h => notMut_no h) fun _ _ => notMut_no
theorem RelO.mutIn (R : RelO C Γ O σ H) (h : MutAt Γ σ i p) : p ∈ O := by
  rcases h with ⟨⟨d, h | h⟩, h2⟩ | ⟨b, P, o, h, h2⟩
  · obtain ⟨l, o, h3, h4, _⟩ := R.sl i _ h
    rw [h2] at h3; cases h3; exact h4
  · obtain ⟨l, o, h3, _, h4, _⟩ := R.sl i _ h
    rw [h2] at h3; cases h3; exact h4
  · exact ((R.sl i _ h).2.1 _ h2).1
theorem RelO.setOw (R : RelO C Γ (p :: O) σ H) (f : Free Γ i) (hp : ∀ j, ¬ MutAt Γ σ j p) (hu : ∀ q ∈ C.U, q.1 ≠ p) (h0 : C.H0 p = none) (ho : H p = some o) (r : OwnOk C.K (hide (p :: O) H) o d) : RelO C (Γ.set i (.ow d)) (p :: O) (σ.set i (some (.ref p))) H :=
  R.set f (fun hl => ⟨p, o, List.getElem?_set_self hl, List.mem_cons_self, h0, ho, r⟩) (fun j a n h1 h => by
    rcases h with ⟨_, h⟩ | ⟨b, P, o, h, _⟩
    · have := get_set_same h
      cases this
      exact hp j h1
    · cases get_set_same h) fun q hq h => by
    rcases h with ⟨_, h⟩ | ⟨b, P, o, h, _⟩
    · have e := get_set_same h
      have e2 := Option.some.inj e
      exact hu q hq (V.ref.inj e2).symm
    · cases get_set_same h
/-- an own object changes -/
theorem RelO.mut (R : RelO C Γ O σ H) {s s' : Sl} (hi : Γ[i]? = some s) (hs : (s = .ow d ∧ ∃ d', s' = .ow d') ∨ (s = .io d ∧ ∃ d', s' = .io d')) (hp : σ[i]? = some (some (.ref p)))
    (h' : ∀ d', s' = .ow d' ∨ s' = .io d' → OwnOk C.K (hide O H) o d') : RelO C (Γ.set i s') O σ (upd H p o) := by
  have hm : MutAt Γ σ i p := .inl ⟨⟨d, by rcases hs with ⟨e, _⟩ | ⟨e, _⟩ <;> subst e <;> simp [hi]⟩, hp⟩
  have hO : p ∈ O := R.mutIn hm
  have eH : hide O (upd H p o) = hide O H := hide_mut hO
  have hil : i < Γ.length := (List.getElem?_eq_some_iff.mp hi).1
  have kind : ∀ j a, MutAt (Γ.set i s') σ j a → MutAt Γ σ j a := fun j a h => by
    by_cases e : i = j
    · subst e
      rcases h with ⟨_, h2⟩ | ⟨b, P, o, h, _⟩
      · exact .inl ⟨⟨d, by rcases hs with ⟨e, _⟩ | ⟨e, _⟩ <;> subst e <;> simp [hi]⟩, h2⟩
      · have := get_set_same h
        rcases hs with ⟨_, d', e⟩ | ⟨_, d', e⟩ <;> subst e <;> cases this
    · unfold MutAt at h ⊢
      rwa [get_set_ne e] at h
  have notM : ∀ a u, C.H0 a = some u → (∀ q ∈ C.M, q.2 ≠ a) → a ≠ p := fun a u e n z => by
    subst z
    rcases hs with ⟨e1, _⟩ | ⟨e1, _⟩
    · subst e1
      obtain ⟨l, o2, h3, _, h4, _⟩ := R.sl i _ hi
      rw [hp] at h3; cases h3
      rw [e] at h4; cases h4
    · subst e1
      obtain ⟨l, o2, h3, h4, _⟩ := R.sl i _ hi
      rw [hp] at h3; cases h3
      exact n _ h4 rfl
  refine ⟨fun j t e => ?_, fun j k a n h1 h2 => R.ds j k a n (kind _ _ h1) (kind _ _ h2), fun a u e n => by rw [upd_ne (notM a u e n)]; exact R.fr a u e n, fun q hq => ?_, fun q hq => ?_, R.oo, fun a ha => ?_, R.ol, R.o0, fun q hq => by rw [eH]; exact R.tt q hq, fun q hq => ⟨by rw [upd_ne fun z => (R.uu q hq).2.2 i (by rw [z]; exact hm)]; exact (R.uu q hq).1, (R.uu q hq).2.1, fun j hj => (R.uu q hq).2.2 j (kind _ _ hj)⟩, by rw [List.length_set]; exact R.len⟩
  · by_cases h : i = j
    · subst h
      have := get_set_same e
      subst this
      rcases hs with ⟨e1, d', e2⟩ | ⟨e1, d', e2⟩
      · subst e1 e2
        obtain ⟨l, o2, h3, h4, h5, h6, _⟩ := R.sl i _ hi
        rw [hp] at h3; cases h3
        exact ⟨p, o, hp, h4, h5, upd_same, by rw [eH]; exact h' d' (.inl rfl)⟩
      · subst e1 e2
        obtain ⟨l, o2, h3, h4, h5, h6, _⟩ := R.sl i _ hi
        rw [hp] at h3; cases h3
        exact ⟨p, o, hp, h4, h5, upd_same, by rw [eH]; exact h' d' (.inr rfl)⟩
    · rw [get_set_ne h] at e
      have q := R.sl j t e
      have dis : ∀ l, MutAt Γ σ j l → l ≠ p := fun l hl z => R.ds i j p h hm (z ▸ hl)
      cases t with
      | no => trivial
      | sh d2 =>
        obtain ⟨v, h1, h2⟩ := q
        exact ⟨v, h1, by rw [eH]; exact h2⟩
      | ow d2 =>
        obtain ⟨l, u, h1, h2, h3, h4, h5⟩ := q
        exact ⟨l, u, h1, h2, h3, by rw [upd_ne (dis l (.inl ⟨⟨d2, .inl e⟩, h1⟩))]; exact h4, by rw [eH]; exact h5⟩
      | io d2 =>
        obtain ⟨l, u, h1, h2, h3, h4, h5⟩ := q
        exact ⟨l, u, h1, h2, h3, by rw [upd_ne (dis l (.inl ⟨⟨d2, .inr e⟩, h1⟩))]; exact h4, by rw [eH]; exact h5⟩
      | bo d2 =>
        obtain ⟨v, h1, h2, h3⟩ := q
        refine ⟨v, h1, h2, ?_⟩
        rw [eH]
        exact h3
      | pn b P =>
        refine ⟨q.1, fun c hc => ⟨(q.2.1 c hc).1, ?_, (q.2.1 c hc).2.2⟩, by rw [eH]; exact q.2.2⟩
        rw [upd_ne (dis c.1 (.inr ⟨b, P, c.2, e, hc⟩))]
        exact (q.2.1 c hc).2.1
  · rcases R.mm q hq with ⟨h1, d2, h2⟩ | ⟨h0, h1, P, h2⟩
    · refine .inl ⟨h1, ?_⟩
      by_cases h : i = q.1
      · rw [← h] at h2
        rw [hi] at h2
        cases h2
        rcases hs with ⟨e1, _⟩ | ⟨e1, d', e2⟩
        · cases e1
        · exact ⟨d', by rw [← h, e2]; exact List.getElem?_set_self hil⟩
      · exact ⟨d2, by rw [get_set_ne h]; exact h2⟩
    · have h : i ≠ q.1 := fun z => by
        rw [← z, hi] at h2
        rcases hs with ⟨e1, _⟩ | ⟨e1, _⟩ <;> subst e1 <;> cases h2
      exact .inr ⟨h0, h1, P, by rw [get_set_ne h]; exact h2⟩
  · obtain ⟨h1, d2, h2⟩ := R.bb q hq
    refine ⟨h1, d2, ?_⟩
    have h : i ≠ q.1 := fun z => by
      rw [← z, hi] at h2
      rcases hs with ⟨e1, _⟩ | ⟨e1, _⟩ <;> subst e1 <;> cases h2
    rw [get_set_ne h]; exact h2
  · by_cases z : a = p
    · rw [z, upd_same]
      rcases hs with ⟨_, d', e⟩ | ⟨_, d', e⟩
      · exact (h' d' (.inl e)).tk
      · exact (h' d' (.inr e)).tk
    · rw [upd_ne z]; exact R.al a ha
/-- an own object is not changed any more: from now on it is shared -/
theorem RelO.freeze (R : RelO C Γ O σ H) (hi : Γ[i]? = some (.ow d)) : ∃ O', RelO C (Γ.set i (.sh d)) O' σ H ∧ Same (hide O H) (hide O' H) := by
  obtain ⟨l, o, h1, h2, h3, h4, h5⟩ := R.sl i _ hi
  have hm : MutAt Γ σ i l := .inl ⟨⟨d, .inl hi⟩, h1⟩
  have hil : i < Γ.length := (List.getElem?_eq_some_iff.mp hi).1
  have sub : ∀ a, a ∈ O.filter (fun a => decide (a ≠ l)) → a ∈ O := fun a h => (List.mem_filter.mp h).1
  have e : Same (hide O H) (hide (O.filter fun a => decide (a ≠ l)) H) := hide_sub sub
  have lout : l ∉ O.filter (fun a => decide (a ≠ l)) := fun z => by
    have := (List.mem_filter.mp z).2
    simp at this
  have stays : ∀ a, a ∈ O → a ≠ l → a ∈ O.filter (fun a => decide (a ≠ l)) := fun a h n => List.mem_filter.mpr ⟨h, by simpa using n⟩
  have kind : ∀ j a, MutAt (Γ.set i (.sh d)) σ j a → MutAt Γ σ j a := fun j a h => by
    by_cases e : i = j
    · subst e
      rcases h with ⟨⟨d', h | h⟩, _⟩ | ⟨b, P, o, h, _⟩ <;> cases get_set_same h
    · unfold MutAt at h ⊢
      rwa [get_set_ne e] at h
  refine ⟨O.filter fun a => decide (a ≠ l), ⟨fun j t ej => ?_, fun j k a n g1 g2 => ?_, R.fr, fun q hq => ?_, fun q hq => ?_, fun a ha => stays a (R.oo a ha) ?_, fun a ha => R.al a (sub a ha), fun a ha => R.ol a (sub a ha), R.o0, fun q hq => (R.tt q hq).mono e, fun q hq => ⟨(R.uu q hq).1, stays _ (R.uu q hq).2.1 fun z => (R.uu q hq).2.2 i (by rw [z]; exact hm), fun j hj => (R.uu q hq).2.2 j (kind _ _ hj)⟩, by rw [List.length_set]; exact R.len⟩, e⟩
  · by_cases h : i = j
    · subst h
      have := get_set_same ej
      subst this
      refine ⟨_, h1, (h5.mono e).rep ?_⟩
      rw [hide_out lout]; exact h4
    · rw [get_set_ne h] at ej
      have q := R.sl j t ej
      have dis : ∀ a, MutAt Γ σ j a → a ≠ l := fun a ha z => R.ds i j l h hm (z ▸ ha)
      cases t with
      | no => trivial
      | sh d2 => obtain ⟨v, h1, h2⟩ := q; exact ⟨v, h1, h2.mono e⟩
      | ow d2 => obtain ⟨l2, u, h1, h2, h3, h4, h5⟩ := q; exact ⟨l2, u, h1, stays _ h2 (dis l2 (.inl ⟨⟨d2, .inl ej⟩, h1⟩)), h3, h4, h5.mono e⟩
      | io d2 => obtain ⟨l2, u, h1, h2, h3, h4, h5⟩ := q; exact ⟨l2, u, h1, h2, stays _ h3 (dis l2 (.inl ⟨⟨d2, .inr ej⟩, h1⟩)), h4, h5.mono e⟩
      | bo d2 =>
        obtain ⟨v, h1, h2, h3⟩ := q
        refine ⟨v, h1, h2, ?_⟩
        rcases h3 with h3 | ⟨l2, u, h3, h4, h5, h6⟩
        · exact .inl (h3.mono e)
        · exact .inr ⟨l2, u, h3, h4, h5, h6.mono e⟩
      | pn b P => exact ⟨q.1, fun c hc => ⟨stays _ (q.2.1 c hc).1 (dis c.1 (.inr ⟨b, P, c.2, ej, hc⟩)), (q.2.1 c hc).2⟩, fun t ht => (q.2.2 t ht).mono e⟩
  · exact R.ds j k a n (kind _ _ g1) (kind _ _ g2)
  · rcases R.mm q hq with ⟨g1, d2, g2⟩ | ⟨g0, g1, P, g2⟩
    · have h : i ≠ q.1 := fun z => by rw [← z, hi] at g2; cases g2
      exact .inl ⟨g1, d2, by rw [get_set_ne h]; exact g2⟩
    · have h : i ≠ q.1 := fun z => by rw [← z, hi] at g2; cases g2
      exact .inr ⟨g0, g1, P, by rw [get_set_ne h]; exact g2⟩
  · obtain ⟨g1, d2, g2⟩ := R.bb q hq
    have h : i ≠ q.1 := fun z => by rw [← z, hi] at g2; cases g2
    exact ⟨g1, d2, by rw [get_set_ne h]; exact g2⟩
  · intro z
    exact R.o0 a ha (z ▸ h3)
end
/-! ### results -/
/-- what an expression gives: a shared datum; a new object that nobody else holds; the object of slot i -/
inductive Res where
  | val (d : D)
  | fr (d : D)
  | pl (i : Nat)
  | np (a : D) (ds : List D)
/-- the content of a place -/
def cont : Option Sl → Option D
  | some (.ow d) => some d
  | some (.io d) => some d
  | some (.bo d) => some d
  | _ => none
def rd (Γ : Env) : Res → Option D
  | .val d => some d
  | .fr d => some d
  | .pl i => cont Γ[i]?
  | .np a ds => some (.tup [a, .lst ds])
/-- a shared datum -/
def dat : Res → Option D
  | .val d => some d
  | .fr d => some d
  | .pl _ => none
  | .np a ds => some (.tup [a, .lst ds])
def FrOk (C : Ctx) (Γ : Env) (O : List Addr) (σ : St) (H : Hp) (v : V) (d : D) : Prop :=
  ∃ p o, v = .ref p ∧ H p = some o ∧ p ∉ O ∧ C.H0 p = none ∧ OwnOk C.K (hide (p :: O) H) o d ∧ RelO C Γ (p :: O) σ H
/-- a pair, the second part of which is a new list -/
def NpOk (C : Ctx) (O : List Addr) (H : Hp) (v : V) (a : D) (ds : List D) : Prop :=
  ∃ p l v0 vs, v = .ref p ∧ H p = some (.tup [v0, .ref l]) ∧ p ∉ O ∧ l ∉ O ∧ H l = some (.lst vs) ∧ C.H0 l = none ∧ Rep C.K (hide O H) v0 a ∧ Reps C.K (hide O H) vs ds
def ROk (C : Ctx) (Γ : Env) (O : List Addr) (σ : St) (H : Hp) (v : V) : Res → Prop
  | .val d => RelO C Γ O σ H ∧ Rep C.K (hide O H) v d
  | .fr d => RelO C Γ O σ H ∧ FrOk C Γ O σ H v d
  | .pl i => RelO C Γ O σ H ∧ σ[i]? = some (some v)
  | .np a ds => RelO C Γ O σ H ∧ NpOk C O H v a ds
/-- a result that waits while other things are done -/
def Pend (K : Fg) (O : List Addr) (σ : St) (H : Hp) (v : V) : Res → Prop
  | .val d => Rep K (hide O H) v d
  | .fr d => Rep K (hide O H) v d
  | .pl i => σ[i]? = some (some v)
  | .np a ds => Rep K (hide O H) v (.tup [a, .lst ds])
/-- a value that is read now -/
def B2 (K : Fg) (O : List Addr) (H : Hp) (v : V) (d : D) : Prop := Rep K (hide O H) v d ∨ ∃ l o, v = .ref l ∧ H l = some o ∧ OwnOk K (hide O H) o d
section
variable {C : Ctx} {Γ : Env} {O : List Addr} {σ : St} {H H' : Hp} {i : Nat} {d : D} {p : Addr} {o : HO} {v : V} {r : Res}
theorem FrOk.rep (h : FrOk C Γ O σ H v d) : Rep C.K (hide O H) v d := by
  obtain ⟨p, o, rfl, h1, h2, h3, h4, _⟩ := h
  refine (h4.mono hide_cons_sub).rep ?_
  rw [hide_out h2]; exact h1
theorem NpOk.rep {a : D} {ds : List D} (h : NpOk C O H v a ds) : Rep C.K (hide O H) v (.tup [a, .lst ds]) := by
  obtain ⟨p, l, v0, vs, rfl, h1, h2, h3, h4, _, h5, h6⟩ := h
  exact .tup (by rw [hide_out h2]; exact h1) (.cons h5 (.cons (.lst (by rw [hide_out h3]; exact h4) h6) .nil))
theorem ROk.rel (h : ROk C Γ O σ H v r) : RelO C Γ O σ H := by
  cases r with
  | val d => exact h.1
  | fr d => exact h.1
  | pl i => exact h.1
  | np a ds => exact h.1
theorem ROk.pend (h : ROk C Γ O σ H v r) : Pend C.K O σ H v r := by
  cases r with
  | val d => exact h.2
  | fr d => exact h.2.rep
  | pl i => exact h.2
  | np a ds => exact h.2.rep
theorem Pend.mono {K : Fg} (e : Same (hide O H) (hide O H')) (h : Pend K O σ H v r) : Pend K O σ H' v r := by
  cases r with
  | val d => exact Rep.mono e h
  | fr d => exact Rep.mono e h
  | pl i => exact h
  | np a ds => exact Rep.mono e h
theorem Pend.dat {K : Fg} (h : Pend K O σ H v r) (e : dat r = some d) : Rep K (hide O H) v d := by
  cases r with
  | val d' => cases e; exact h
  | fr d' => cases e; exact h
  | pl i => cases e
  | np a ds => cases e; exact h
theorem Pend.b2 (R : RelO C Γ O σ H) (h : Pend C.K O σ H v r) (e : rd Γ r = some d) : B2 C.K O H v d := by
  cases r with
  | val d' => cases e; exact .inl h
  | fr d' => cases e; exact .inl h
  | np a ds => cases e; exact .inl h
  | pl i =>
    have e : cont Γ[i]? = some d := e
    cases q : Γ[i]? with
    | none => rw [q] at e; cases e
    | some s =>
      rw [q] at e
      have k := R.sl i s q
      cases s with
      | no => cases e
      | sh d' => cases e
      | ow d' =>
        cases e
        obtain ⟨l, o, h1, h2, h3, h4, h5⟩ := k
        have h : σ[i]? = some (some v) := h
        rw [h] at h1; cases h1
        exact .inr ⟨l, o, rfl, h4, h5⟩
      | io d' =>
        cases e
        obtain ⟨l, o, h1, h2, h3, h4, h5⟩ := k
        have h : σ[i]? = some (some v) := h
        rw [h] at h1; cases h1
        exact .inr ⟨l, o, rfl, h4, h5⟩
      | bo d' =>
        cases e
        obtain ⟨v', h1, h2, h3⟩ := k
        have h : σ[i]? = some (some v) := h
        rw [h] at h1; cases h1
        rcases h3 with h3 | ⟨l, o, h3, h4, h5, h6⟩
        · exact .inl h3
        · exact .inr ⟨l, o, h3, R.fr l o h4 h5, h6⟩
      | pn b P => cases e
end
end DL
/-! the data layer, part 2: readings of expressions over data -/
namespace DL
open PySem L2
abbrev QE := Res → Env → Prop
abbrev DTE := Env → QE → Prop
abbrev DTT := Env → (Bool → Env → Prop) → Prop
abbrev DTA := Env → (List Res → Env → Prop) → Prop
inductive Pends (K : Fg) (O : List Addr) (σ : St) (H : Hp) : List V → List Res → Prop
  | nil : Pends K O σ H [] []
  | cons {v : V} {vs : List V} {r : Res} {rs : List Res} : Pend K O σ H v r → Pends K O σ H vs rs → Pends K O σ H (v :: vs) (r :: rs)
theorem Pends.mono {K : Fg} {O : List Addr} {σ : St} {H H' : Hp} (e : Same (hide O H) (hide O H')) : ∀ {vs : List V} {rs : List Res}, Pends K O σ H vs rs → Pends K O σ H' vs rs
  | _, _, .nil => .nil
  | _, _, .cons h t => .cons (h.mono e) (Pends.mono e t)
/-- what was shared stays; a new object is new -/
def SE (O : List Addr) (H H' : Hp) (v : V) (r : Res) : Prop := Same (hide O H) (hide O H') ∧ ∀ d p, r = .fr d → v = .ref p → Same (hide O H) (hide (p :: O) H')
theorem SE.val {O : List Addr} {H H' : Hp} {v : V} {d : D} (h : Same (hide O H) (hide O H')) : SE O H H' v (.val d) := ⟨h, fun _ _ e => nomatch e⟩
theorem SE.pl {O : List Addr} {H H' : Hp} {v : V} {i : Nat} (h : Same (hide O H) (hide O H')) : SE O H H' v (.pl i) := ⟨h, fun _ _ e => nomatch e⟩
theorem SE.fr {O : List Addr} {H H' : Hp} {p : Addr} {d : D} (h : Same (hide O H) (hide (p :: O) H')) : SE O H H' (.ref p) (.fr d) := ⟨L2.Same.trans h hide_cons_sub, fun _ _ _ e => by cases e; exact h⟩
theorem SE.after {O : List Addr} {H H1 H' : Hp} {v : V} {r : Res} (h : Same (hide O H) (hide O H1)) (e : SE O H1 H' v r) : SE O H H' v r := ⟨L2.Same.trans h e.1, fun d p e1 e2 => L2.Same.trans h (e.2 d p e1 e2)⟩
/-- e reads as t over slots and heap, and as m over data -/
def SimE (C : Ctx) (t : TE) (m : DTE) : Prop := ∀ (Γ : Env) (O : List Addr) (σ : St) (H : Hp) (Qd : QE) (Q : VK), RelO C Γ O σ H → m Γ Qd →
  (∀ r Γ' v H', ROk C Γ' O σ H' v r → SE O H H' v r → Qd r Γ' → Q v H') → t σ H Q
def SimT (C : Ctx) (t : TT) (m : DTT) : Prop := ∀ (Γ : Env) (O : List Addr) (σ : St) (H : Hp) (Qd : Bool → Env → Prop) (Q : Bool → Hp → Prop), RelO C Γ O σ H → m Γ Qd →
  (∀ b Γ' H', RelO C Γ' O σ H' → Same (hide O H) (hide O H') → Qd b Γ' → Q b H') → t σ H Q
def SimA (C : Ctx) (t : TA) (m : DTA) : Prop := ∀ (Γ : Env) (O : List Addr) (σ : St) (H : Hp) (Qd : List Res → Env → Prop) (Q : List V → Hp → Prop), RelO C Γ O σ H → m Γ Qd →
  (∀ rs Γ' vs H', RelO C Γ' O σ H' → Pends C.K O σ H' vs rs → Same (hide O H) (hide O H') → Qd rs Γ' → Q vs H') → t σ H Q
structure DE (X : Cx) (C : Ctx) (e : Expr) (t : TE) (m : DTE) : Prop where
  pe : PE X e t
  sim : SimE C t m
structure DT (X : Cx) (C : Ctx) (e : Expr) (t : TT) (m : DTT) : Prop where
  pt : PT X e t
  sim : SimT C t m
structure DW (X : Cx) (C : Ctx) (e : Expr) (t : TT) (m : DTT) : Prop where
  pw : PW X e t
  sim : SimT C t m
structure DA (X : Cx) (C : Ctx) (es : List Expr) (t : TA) (m : DTA) : Prop where
  pa : PA X es t
  sim : SimA C t m
/-- what an operation on values may hand back -/
structure Outs (K : Fg) (O : List Addr) (H : Hp) (Qd : Res → Prop) (Q : VK) : Prop where
  val : ∀ v d, Rep K (hide O H) v d → Qd (.val d) → Q v H
  new : ∀ p o d, H p = none → OwnOk K (hide O H) o d → Qd (.fr d) → Q (.ref p) (upd H p o)
  newT : ∀ p vs ds, H p = none → Reps K (hide O H) vs ds → Qd (.val (.tup ds)) → Q (.ref p) (upd H p (.tup vs))
section
variable {C : Ctx} {Γ Γ' : Env} {O : List Addr} {σ : St} {H H1 H' : Hp} {Qd : QE} {Q : VK}
theorem SameH.trans {a b c : Hp} (h : Same a b) (k : Same b c) : Same a c := L2.Same.trans h k
theorem outs_of (R : RelO C Γ' O σ H1) (e : Same (hide O H) (hide O H1)) (k : ∀ r Γ' v H', ROk C Γ' O σ H' v r → SE O H H' v r → Qd r Γ' → Q v H') : Outs C.K O H1 (fun r => Qd r Γ') Q where
  val := fun v d r q => k (.val d) Γ' v H1 ⟨R, r⟩ (.val e) q
  new := fun p o d hp ho q => k (.fr d) Γ' (.ref p) (upd H1 p o) ⟨R.alloc hp, p, o, rfl, upd_same, R.notin hp, R.fresh0 hp, ho.mono (hide_newO hp), R.allocO hp ho.tk⟩ (.fr (L2.Same.trans e (hide_newO hp))) q
  newT := fun p vs ds hp hr q => k (.val (.tup ds)) Γ' (.ref p) (upd H1 p (.tup vs)) ⟨R.alloc hp, .tup (by rw [hide_out (R.notin hp)]; exact upd_same) (hr.mono (hide_new hp))⟩ (.val (L2.Same.trans e (hide_new hp))) q
end
section
variable {K : Fg} {O : List Addr} {H : Hp} {x : V}
theorem B2.int {i : Int} (h : B2 K O H x (.int i)) : x = .int i := by
  rcases h with h | ⟨l, o, _, _, h⟩
  · cases h; rfl
  · cases h
theorem B2.bl {i : Bool} (h : B2 K O H x (.bl i)) : x = .bl i := by
  rcases h with h | ⟨l, o, _, _, h⟩
  · cases h; rfl
  · cases h
theorem B2.str {i : Str} (h : B2 K O H x (.str i)) : x = .str i := by
  rcases h with h | ⟨l, o, _, _, h⟩
  · cases h; rfl
  · cases h
theorem B2.non (h : B2 K O H x .non) : x = .non := by
  rcases h with h | ⟨l, o, _, _, h⟩
  · cases h; rfl
  · cases h
theorem B2.lst {ds : List D} (h : B2 K O H x (.lst ds)) : ∃ a vs, x = .ref a ∧ H a = some (.lst vs) ∧ Reps K (hide O H) vs ds := by
  rcases h with h | ⟨l, o, rfl, h1, h⟩
  · cases h with | lst h r => exact ⟨_, _, rfl, hide_same _ _ h, r⟩
  · cases h with | lst r => exact ⟨l, _, rfl, h1, r⟩
theorem B2.scr {ds : List D} (h : B2 K O H x (.scr ds)) : ∃ a vs, x = .ref a ∧ SqL K H a vs ∧ Reps K (hide O H) vs ds := by
  rcases h with h | ⟨l, o, rfl, h1, h⟩
  · cases h with | scr h r => exact ⟨_, _, rfl, hide_same.seq h, r⟩
  · cases h
theorem B2.tup {ds : List D} (h : B2 K O H x (.tup ds)) : ∃ a vs, x = .ref a ∧ H a = some (.tup vs) ∧ Reps K (hide O H) vs ds := by
  rcases h with h | ⟨l, o, rfl, h1, h⟩
  · cases h with | tup h r => exact ⟨_, _, rfl, hide_same _ _ h, r⟩
  · cases h
theorem B2.dic {ds : List (Key × D)} (h : B2 K O H x (.dic ds)) : ∃ a vs, x = .ref a ∧ H a = some (.dK vs) ∧ RepK K (hide O H) vs ds := by
  rcases h with h | ⟨l, o, rfl, h1, h⟩
  · cases h with | dic h r => exact ⟨_, _, rfl, hide_same _ _ h, r⟩
  · cases h with | dic r => exact ⟨l, _, rfl, h1, r⟩
theorem B2.dit {ds : List (List Key × D)} (h : B2 K O H x (.dit ds)) : ∃ a vs, x = .ref a ∧ H a = some (.dT vs) ∧ RepT K (hide O H) vs ds := by
  rcases h with h | ⟨l, o, rfl, h1, h⟩
  · cases h with | dit h r => exact ⟨_, _, rfl, hide_same _ _ h, r⟩
  · cases h with | dit r => exact ⟨l, _, rfl, h1, r⟩
theorem B2.obj {c : Addr} {ns : List Str} {ds : List D} (h : B2 K O H x (.obj c ns ds)) : ∃ a dx fs, x = .ref a ∧ H a = some (.ins c dx fs) ∧ fs.map (·.1) = ns ∧ Reps K (hide O H) (fs.map (·.2)) ds := by
  rcases h with h | ⟨l, o, rfl, h1, h⟩
  · cases h with | obj h n r => exact ⟨_, _, _, rfl, hide_same _ _ h, n, r⟩
  · cases h with | obj n r => exact ⟨_, _, _, rfl, h1, n, r⟩
end
/-! ### the readings over data -/
def mVar (i : Nat) : DTE := fun Γ Q => match Γ[i]? with
  | some (.sh d) => Q (.val d) Γ
  | some (.ow _) => Q (.pl i) Γ
  | some (.io _) => Q (.pl i) Γ
  | some (.bo _) => Q (.pl i) Γ
  | some (.pn _ _) => Q (.pl i) Γ
  | _ => False
def mC (d : D) : DTE := fun Γ Q => Q (.val d) Γ
def mOp (f : D → D → (Res → Prop) → Prop) (ma mb : DTE) : DTE := fun Γ Q => ma Γ fun ra Γ1 => mb Γ1 fun rb Γ2 => ∃ a b, rd Γ2 ra = some a ∧ rd Γ2 rb = some b ∧ f a b fun r => Q r Γ2
def mUn (f : D → (Res → Prop) → Prop) (ma : DTE) : DTE := fun Γ Q => ma Γ fun ra Γ1 => ∃ a, rd Γ1 ra = some a ∧ f a fun r => Q r Γ1
def mTest (ma : DTE) : DTT := fun Γ Q => ma Γ fun r Γ1 => ∃ b, r = .val (.bl b) ∧ Q b Γ1
def mAndV (ma mb : DTE) : DTE := fun Γ Q => ma Γ fun r Γ1 => ∃ b, r = .val (.bl b) ∧ if b = true then mb Γ1 Q else Q (.val (.bl false)) Γ1
def mOrV (ma mb : DTE) : DTE := fun Γ Q => ma Γ fun r Γ1 => ∃ b, r = .val (.bl b) ∧ if b = true then Q (.val (.bl true)) Γ1 else mb Γ1 Q
def mNotV (ma : DTE) : DTE := fun Γ Q => ma Γ fun r Γ1 => ∃ b, r = .val (.bl b) ∧ Q (.val (.bl (!b))) Γ1
def mAnd (ma mb : DTT) : DTT := fun Γ Q => ma Γ fun b Γ1 => if b = true then mb Γ1 Q else Q false Γ1
def mOr (ma mb : DTT) : DTT := fun Γ Q => ma Γ fun b Γ1 => if b = true then Q true Γ1 else mb Γ1 Q
def mNot (ma : DTT) : DTT := fun Γ Q => ma Γ fun b Γ1 => Q (!b) Γ1
def mIf (mt : DTT) (ma mb : DTE) : DTE := fun Γ Q => mt Γ fun b Γ1 => if b = true then ma Γ1 Q else mb Γ1 Q
def mNil : DTA := fun Γ Q => Q [] Γ
def mCons (ma : DTE) (mr : DTA) : DTA := fun Γ Q => ma Γ fun r Γ1 => mr Γ1 fun rs Γ2 => Q (r :: rs) Γ2
def dats : List Res → Option (List D)
  | [] => some []
  | r :: rs => match dat r, dats rs with
    | some d, some ds => some (d :: ds)
    | _, _ => none
def rds (Γ : Env) : List Res → Option (List D)
  | [] => some []
  | r :: rs => match rd Γ r, rds Γ rs with
    | some d, some ds => some (d :: ds)
    | _, _ => none
def mTup (ma : DTA) : DTE := fun Γ Q => ma Γ fun rs Γ1 => ∃ ds, dats rs = some ds ∧ ds.length ≤ 100000 ∧ Q (.val (.tup ds)) Γ1
def mLst (ma : DTA) : DTE := fun Γ Q => ma Γ fun rs Γ1 => ∃ ds, dats rs = some ds ∧ ds.length ≤ 100000 ∧ Q (.fr (.lst ds)) Γ1
/-- a call of a built-in, by values -/
def mCB (f : List D → (Res → Prop) → Prop) (ma : DTA) : DTE := fun Γ Q => ma Γ fun rs Γ1 => ∃ ds, rds Γ1 rs = some ds ∧ f ds fun r => Q r Γ1
section
variable {X : Cx} {C : Ctx} {ta tb tc : TE} {ma mb mc : DTE} {a b c e : Expr} {pos : Pos} {tA tB' : TT} {mA mB : DTT}
theorem dats_ok {K : Fg} {O : List Addr} {σ : St} {H : Hp} : ∀ {vs : List V} {rs : List Res} {ds : List D}, Pends K O σ H vs rs → dats rs = some ds → Reps K (hide O H) vs ds
  | _, _, _, .nil, e => by cases e; exact .nil
  | _, _, ds, .cons (r := r) (rs := rs) h t, e => by
    unfold dats at e
    split at e
    · rename_i d ds' e1 e2
      cases e
      exact .cons (h.dat e1) (dats_ok t e2)
    · cases e
inductive B2s (K : Fg) (O : List Addr) (H : Hp) : List V → List D → Prop
  | nil : B2s K O H [] []
  | cons {v : V} {vs : List V} {d : D} {ds : List D} : B2 K O H v d → B2s K O H vs ds → B2s K O H (v :: vs) (d :: ds)
theorem rds_ok {Γ : Env} {O : List Addr} {σ : St} {H : Hp} (R : RelO C Γ O σ H) : ∀ {vs : List V} {rs : List Res} {ds : List D}, Pends C.K O σ H vs rs → rds Γ rs = some ds → B2s C.K O H vs ds
  | _, _, _, .nil, e => by cases e; exact .nil
  | _, _, ds, .cons (r := r) (rs := rs) h t, e => by
    unfold rds at e
    split at e
    · rename_i d ds' e1 e2
      cases e
      exact .cons (h.b2 R e1) (rds_ok R t e2)
    · cases e
theorem sim_var (i : Nat) : SimE C (tVar i) (mVar i) := fun Γ O σ H Qd Q R h k => by
  unfold mVar at h
  cases e : Γ[i]? with
  | none => rw [e] at h; exact h.elim
  | some s =>
    rw [e] at h
    have q := R.sl i s e
    cases s with
    | no => exact h.elim
    | sh d =>
      obtain ⟨v, h1, h2⟩ := q
      exact ⟨v, h1, k (.val d) _ _ _ ⟨R, h2⟩ (.val (L2.Same.refl _)) h⟩
    | ow d =>
      obtain ⟨l, o, h1, _⟩ := q
      exact ⟨_, h1, k (.pl i) _ _ _ ⟨R, h1⟩ (.pl (L2.Same.refl _)) h⟩
    | io d =>
      obtain ⟨l, o, h1, _⟩ := q
      exact ⟨_, h1, k (.pl i) _ _ _ ⟨R, h1⟩ (.pl (L2.Same.refl _)) h⟩
    | bo d =>
      obtain ⟨v, h1, _⟩ := q
      exact ⟨_, h1, k (.pl i) _ _ _ ⟨R, h1⟩ (.pl (L2.Same.refl _)) h⟩
    | pn b P => exact ⟨_, q.1, k (.pl i) _ _ _ ⟨R, q.1⟩ (.pl (L2.Same.refl _)) h⟩
theorem de_var (i : Nat) {x : Str} (h : PE X (.Name x pos) (tVar i)) : DE X C (.Name x pos) (tVar i) (mVar i) := ⟨h, sim_var i⟩
theorem sim_c {v : V} {d : D} (h : ∀ (K : Fg) (H : Hp), Rep K H v d) : SimE C (tC v) (mC d) := fun Γ O σ H Qd Q R q k => k (.val d) _ _ _ ⟨R, h _ _⟩ (.val (L2.Same.refl _)) q
theorem de_int {i : Int} {j} : DE X C (.Constant (.int i) j pos) (tC (.int i)) (mC (.int i)) := ⟨pe_int, sim_c fun _ _ => .int i⟩
theorem de_bl {i : Bool} {j} : DE X C (.Constant (.bool i) j pos) (tC (.bl i)) (mC (.bl i)) := ⟨pe_bl, sim_c fun _ _ => .bl i⟩
/-- a module's constant that is an int, a text -/
theorem de_globI {x : Str} {i : Int} (h : PE X (.Name x pos) (tC (.int i))) : DE X C (.Name x pos) (tC (.int i)) (mC (.int i)) := ⟨h, sim_c fun _ _ => .int i⟩
def SimR2 (K : Fg) (r : R2) (f : D → D → (Res → Prop) → Prop) : Prop := ∀ (O : List Addr) (H : Hp) (x y : V) (a b : D) (Qd : Res → Prop) (Q : VK), B2 K O H x a → B2 K O H y b → f a b Qd → Outs K O H Qd Q → r x y H Q
def SimR1 (K : Fg) (r : V → Hp → VK → Prop) (f : D → (Res → Prop) → Prop) : Prop := ∀ (O : List Addr) (H : Hp) (x : V) (a : D) (Qd : Res → Prop) (Q : VK), B2 K O H x a → f a Qd → Outs K O H Qd Q → r x H Q
def SimRC (K : Fg) (r : List V → Hp → VK → Prop) (f : List D → (Res → Prop) → Prop) : Prop := ∀ (O : List Addr) (H : Hp) (vs : List V) (ds : List D) (Qd : Res → Prop) (Q : VK), B2s K O H vs ds → f ds Qd → Outs K O H Qd Q → r vs H Q
theorem sim_op {r : R2} {f : D → D → (Res → Prop) → Prop} (ha : SimE C ta ma) (hb : SimE C tb mb) (hr : SimR2 C.K r f) : SimE C (tOp r ta tb) (mOp f ma mb) := fun Γ O σ H Qd Q R h k => by
  refine ha Γ O σ H _ _ R h fun ra Γ1 x H1 R1 e1 q1 => ?_
  refine hb Γ1 O σ H1 _ _ R1.rel q1 fun rb Γ2 y H2 R2 e2 q2 => ?_
  obtain ⟨a, b, h1, h2, q⟩ := q2
  exact hr O H2 x y a b _ _ ((R1.pend.mono e2.1).b2 R2.rel h1) (R2.pend.b2 R2.rel h2) q (outs_of R2.rel (L2.Same.trans e1.1 e2.1) k)
theorem sim_un {r : V → Hp → VK → Prop} {f : D → (Res → Prop) → Prop} (ha : SimE C ta ma) (hr : SimR1 C.K r f) : SimE C (tUn r ta) (mUn f ma) := fun Γ O σ H Qd Q R h k => by
  refine ha Γ O σ H _ _ R h fun ra Γ1 x H1 R1 e1 q1 => ?_
  obtain ⟨a, h1, q⟩ := q1
  exact hr O H1 x a _ _ (R1.pend.b2 R1.rel h1) q (outs_of R1.rel e1.1 k)
theorem sim_test (ha : SimE C ta ma) : SimT C (tTest ta) (mTest ma) := fun Γ O σ H Qd Q R h k => by
  refine ha Γ O σ H _ _ R h fun ra Γ1 x H1 R1 e1 q1 => ?_
  obtain ⟨b, rfl, q⟩ := q1
  exact ⟨b, (show B2 C.K O H1 x (.bl b) from .inl R1.2).bl, k b Γ1 H1 R1.rel e1.1 q⟩
theorem sim_testB (ha : SimE C ta ma) : SimT C (tB ta) (mTest ma) := sim_test ha
theorem sim_andV (ha : SimE C ta ma) (hb : SimE C tb mb) : SimE C (tAndV ta tb) (mAndV ma mb) := fun Γ O σ H Qd Q R h k => by
  refine ha Γ O σ H _ _ R h fun ra Γ1 x H1 R1 e1 q1 => ?_
  obtain ⟨c, rfl, q⟩ := q1
  refine ⟨c, (show B2 C.K O H1 x (.bl c) from .inl R1.2).bl, ?_⟩
  cases c with
  | true => exact hb Γ1 O σ H1 _ _ R1.rel q fun r Γ2 v H2 R2 e2 q2 => k r Γ2 v H2 R2 (.after e1.1 e2) q2
  | false => exact k (.val (.bl false)) Γ1 _ H1 ⟨R1.rel, .bl false⟩ (.val e1.1) q
theorem sim_notV (ha : SimE C ta ma) : SimE C (tNotV ta) (mNotV ma) := fun Γ O σ H Qd Q R h k => by
  refine ha Γ O σ H _ _ R h fun ra Γ1 x H1 R1 e1 q1 => ?_
  obtain ⟨c, rfl, q⟩ := q1
  exact ⟨c, (show B2 C.K O H1 x (.bl c) from .inl R1.2).bl, k (.val (.bl (!c))) Γ1 _ H1 ⟨R1.rel, .bl _⟩ (.val e1.1) q⟩
theorem sim_and (ha : SimT C tA mA) (hb : SimT C tB' mB) : SimT C (tAnd tA tB') (mAnd mA mB) := fun Γ O σ H Qd Q R h k => by
  refine ha Γ O σ H _ _ R h fun c Γ1 H1 R1 e1 q => ?_
  cases c with
  | true => exact hb Γ1 O σ H1 _ _ R1 q fun r Γ2 H2 R2 e2 q2 => k r Γ2 H2 R2 (L2.Same.trans e1 e2) q2
  | false => exact k _ Γ1 H1 R1 e1 q
theorem sim_or (ha : SimT C tA mA) (hb : SimT C tB' mB) : SimT C (tOr tA tB') (mOr mA mB) := fun Γ O σ H Qd Q R h k => by
  refine ha Γ O σ H _ _ R h fun c Γ1 H1 R1 e1 q => ?_
  cases c with
  | false => exact hb Γ1 O σ H1 _ _ R1 q fun r Γ2 H2 R2 e2 q2 => k r Γ2 H2 R2 (L2.Same.trans e1 e2) q2
  | true => exact k _ Γ1 H1 R1 e1 q
theorem sim_not (ha : SimT C tA mA) : SimT C (tNot tA) (mNot mA) := fun Γ O σ H Qd Q R h k => ha Γ O σ H _ _ R h fun c Γ1 H1 R1 e1 q => k _ Γ1 H1 R1 e1 q
theorem sim_if (ht : SimT C tA mA) (ha : SimE C ta ma) (hb : SimE C tb mb) : SimE C (tIf tA ta tb) (mIf mA ma mb) := fun Γ O σ H Qd Q R h k => by
  refine ht Γ O σ H _ _ R h fun c Γ1 H1 R1 e1 q => ?_
  cases c with
  | true => exact ha Γ1 O σ H1 _ _ R1 q fun r Γ2 v H2 R2 e2 q2 => k r Γ2 v H2 R2 (.after e1 e2) q2
  | false => exact hb Γ1 O σ H1 _ _ R1 q fun r Γ2 v H2 R2 e2 q2 => k r Γ2 v H2 R2 (.after e1 e2) q2
theorem sim_nil : SimA C tNil mNil := fun Γ O σ H Qd Q R h k => k [] Γ [] H R .nil (L2.Same.refl _) h
theorem sim_cons {tr : TA} {mr : DTA} (ha : SimE C ta ma) (hr : SimA C tr mr) : SimA C (tCons ta tr) (mCons ma mr) := fun Γ O σ H Qd Q R h k => by
  refine ha Γ O σ H _ _ R h fun ra Γ1 x H1 R1 e1 q1 => ?_
  exact hr Γ1 O σ H1 _ _ R1.rel q1 fun rs Γ2 vs H2 R2 p2 e2 q2 => k _ Γ2 _ H2 R2 (.cons (R1.pend.mono e2) p2) (L2.Same.trans e1.1 e2) q2
theorem sim_tup {tr : TA} {mr : DTA} (hr : SimA C tr mr) : SimE C (tTup tr) (mTup mr) := fun Γ O σ H Qd Q R h k => by
  refine hr Γ O σ H _ _ R h fun rs Γ1 vs H1 R1 p1 e1 q1 => ?_
  obtain ⟨ds, h1, h2, q⟩ := q1
  have hr := dats_ok p1 h1
  refine ⟨by rw [hr.length]; exact Nat.le_trans h2 (by decide), fun p hp => (outs_of R1 e1 k).newT p vs ds hp hr q⟩
theorem sim_lst {tr : TA} {mr : DTA} (hr : SimA C tr mr) : SimE C (tLst tr) (mLst mr) := fun Γ O σ H Qd Q R h k => by
  refine hr Γ O σ H _ _ R h fun rs Γ1 vs H1 R1 p1 e1 q1 => ?_
  obtain ⟨ds, h1, h2, q⟩ := q1
  have hr := dats_ok p1 h1
  refine ⟨by rw [hr.length]; exact Nat.le_trans h2 (by decide), fun p hp => (outs_of R1 e1 k).new p _ _ hp (.lst hr) q⟩
theorem sim_cb {tr : TA} {mr : DTA} {r : List V → Hp → VK → Prop} {f : List D → (Res → Prop) → Prop} (ha : SimA C tr mr) (hr : SimRC C.K r f) : SimE C (tCB r tr) (mCB f mr) := fun Γ O σ H Qd Q R h k => by
  refine ha Γ O σ H _ _ R h fun rs Γ1 vs H1 R1 p1 e1 q1 => ?_
  obtain ⟨ds, h1, q⟩ := q1
  exact hr O H1 vs ds _ _ (rds_ok R1 p1 h1) q (outs_of R1 e1 k)
/-! ### rules -/
theorem de_op {op : Operator} {r : R2} {f : D → D → (Res → Prop) → Prop} (ho : OpR X (binaryOp op) r) (hr : SimR2 C.K r f) (ha : DE X C a ta ma) (hb : DE X C b tb mb) : DE X C (.BinOp a op b pos) (tOp r ta tb) (mOp f ma mb) :=
  ⟨pe_op ho ha.pe hb.pe, sim_op ha.sim hb.sim hr⟩
theorem de_un {op : UnaryOp} {r : V → Hp → VK → Prop} {f : D → (Res → Prop) → Prop} (ho : UnR X (unaryOp op) r) (hr : SimR1 C.K r f) (ha : DE X C a ta ma) : DE X C (.UnaryOp op a pos) (tUn r ta) (mUn f ma) :=
  ⟨pe_un ho ha.pe, sim_un ha.sim hr⟩
theorem de_cmp {op : CmpOp} {r : R2} {f : D → D → (Res → Prop) → Prop} (ho : OpR X (compareOp op) r) (hr : SimR2 C.K r f) (ha : DE X C a ta ma) (hb : DE X C b tb mb) (hm : behindInMarks op b = false) : DE X C (.Compare a [op] [b] pos) (tOp r ta tb) (mOp f ma mb) :=
  ⟨pe_cmpR ho ha.pe hb.pe hm, sim_op ha.sim hb.sim hr⟩
theorem dt_cmp {op : CmpOp} {r : R2} {f : D → D → (Res → Prop) → Prop} (ho : OpR X (compareOp op) r) (hr : SimR2 C.K r f) (ha : DE X C a ta ma) (hb : DE X C b tb mb) (hm : behindInMarks op b = false) : DT X C (.Compare a [op] [b] pos) (tTest (tOp r ta tb)) (mTest (mOp f ma mb)) :=
  ⟨pt_cmpR ho ha.pe hb.pe hm, sim_test (sim_op ha.sim hb.sim hr)⟩
theorem dt_val {t : TE} {m : DTE} (h : DE X C e t m) (he : ∀ whole, isTrue e X.env whole = (do let v ← whole; standAt e.pos; holding [v] (truthy v)) := by intro _; rfl) : DT X C e (tB t) (mTest m) := ⟨pt_val h.pe he, sim_test h.sim⟩
theorem dw_pt {t : TT} {m : DTT} (h : DW X C e t m) : DT X C e t m := ⟨h.pw.pt, h.sim⟩
theorem dw_and1 (ha : DT X C a tA mA) : DW X C (.BoolOp .And [a] pos) tA mA := ⟨pw_and1 ha.pt, ha.sim⟩
theorem dw_or1 (ha : DT X C a tA mA) : DW X C (.BoolOp .Or [a] pos) tA mA := ⟨pw_or1 ha.pt, ha.sim⟩
theorem dw_and {rest : List Expr} (ha : DT X C a tA mA) (hb : DW X C (.BoolOp .And (b :: rest) pos) tB' mB) : DW X C (.BoolOp .And (a :: b :: rest) pos) (tAnd tA tB') (mAnd mA mB) := ⟨pw_and ha.pt hb.pw, sim_and ha.sim hb.sim⟩
theorem dw_or {rest : List Expr} (ha : DT X C a tA mA) (hb : DW X C (.BoolOp .Or (b :: rest) pos) tB' mB) : DW X C (.BoolOp .Or (a :: b :: rest) pos) (tOr tA tB') (mOr mA mB) := ⟨pw_or ha.pt hb.pw, sim_or ha.sim hb.sim⟩
theorem dt_not (ha : DT X C a tA mA) : DT X C (.UnaryOp .Not a pos) (tNot tA) (mNot mA) := ⟨pt_not ha.pt, sim_not ha.sim⟩
theorem de_one {op} {t : TE} {m : DTE} (h : DE X C a t m) : DE X C (.BoolOp op [a] pos) t m := ⟨pe_one h.pe, h.sim⟩
theorem de_and {rest : List Expr} (ha : DE X C a ta ma) (hb : DE X C (.BoolOp .And (b :: rest) pos) tb mb) : DE X C (.BoolOp .And (a :: b :: rest) pos) (tAndV ta tb) (mAndV ma mb) := ⟨pe_and ha.pe hb.pe, sim_andV ha.sim hb.sim⟩
theorem de_not (ha : DE X C a ta ma) : DE X C (.UnaryOp .Not a pos) (tNotV ta) (mNotV ma) := ⟨pe_not ha.pe, sim_notV ha.sim⟩
theorem de_if (hc : DT X C c tA mA) (ha : DE X C a ta ma) (hb : DE X C b tb mb) : DE X C (.IfExp c a b pos) (tIf tA ta tb) (mIf mA ma mb) := ⟨pe_ifExp hc.pt ha.pe hb.pe, sim_if hc.sim ha.sim hb.sim⟩
theorem da_nil : DA X C [] tNil mNil := ⟨pa_nil, sim_nil⟩
theorem da_cons {es : List Expr} {tr : TA} {mr : DTA} (ha : DE X C e ta ma) (hr : DA X C es tr mr) (hs : starEach (e :: es) X.env = (false, eval e X.env) :: starEach es X.env := by rfl) : DA X C (e :: es) (tCons ta tr) (mCons ma mr) := ⟨pa_cons ha.pe hr.pa hs, sim_cons ha.sim hr.sim⟩
theorem de_tup {es : List Expr} {tr : TA} {mr : DTA} {x1} (h : DA X C es tr mr) : DE X C (.Tuple es x1 pos) (tTup tr) (mTup mr) := ⟨pe_tup h.pa, sim_tup h.sim⟩
theorem de_lst {es : List Expr} {tr : TA} {mr : DTA} (h : DA X C es tr mr) : DE X C (.List es pos) (tLst tr) (mLst mr) := ⟨pe_lst h.pa, sim_lst h.sim⟩
/-- a call of a built-in by its name -/
theorem de_cb {id : String} {x : Str} {p : Pos} {es : List Expr} {tr : TA} {mr : DTA} {r : List V → Hp → VK → Prop} {f : List D → (Res → Prop) → Prop} (hc : CallR X (.builtin id) r) (hr : SimRC C.K r f) (hg : Gl X x) (hm : X.mg x = none) (hv : bootBuiltins x = some (.builtin id)) (ha : DA X C (e :: es) tr mr)
    (hn : x ≠ "__name__" := by decide) (hdb : (x == ("__debug__" : Str)) = false := by decide) (he : starEach (e :: es) X.env = (false, eval e X.env) :: starEach es X.env := by rfl) (hpl : (backTo pos (starEach es X.env)).any (·.1) = false := by rfl) :
    DE X C (.Call (.Name x p) (e :: es) [] pos) (tCB r tr) (mCB f mr) := ⟨pe_callB hc hg hm hv ha.pa hn hdb he hpl, sim_cb ha.sim hr⟩
theorem de_ct {T : String} {x : Str} {p : Pos} {es : List Expr} {tr : TA} {mr : DTA} {r : List V → Hp → VK → Prop} {f : List D → (Res → Prop) → Prop} (hc : CallR X (.type T) r) (hr : SimRC C.K r f) (hg : Gl X x) (hm : X.mg x = none) (hv : bootBuiltins x = some (.type T)) (ha : DA X C (e :: es) tr mr)
    (hn : x ≠ "__name__" := by decide) (hdb : (x == ("__debug__" : Str)) = false := by decide) (he : starEach (e :: es) X.env = (false, eval e X.env) :: starEach es X.env := by rfl) (hpl : (backTo pos (starEach es X.env)).any (·.1) = false := by rfl) :
    DE X C (.Call (.Name x p) (e :: es) [] pos) (tCB r tr) (mCB f mr) := ⟨pe_callTy hc hg hm hv ha.pa hn hdb he hpl, sim_cb ha.sim hr⟩
end
end DL
/-! the data layer, part 3: operators over data -/
namespace DL
open PySem L2 PyProof.Rows
/-! ### data as the library's data -/
def keyPy : Key → PyData
  | .inl i => .int i
  | .inr s => .str s
mutual
def toPy : D → PyData
  | .non => .none
  | .bl b => .bool b
  | .int i => .int i
  | .str s => .str s
  | .lst ds => .list (toPys ds)
  | .scr ds => .list (toPys ds)
  | .tup ds => .tuple (toPys ds)
  | .dic kvs => .dict (toPyK kvs)
  | .dit _ => .none
  | .dkl kvs => .dict (toPyK kvs)
  | .dtl _ => .none
  | .pnK _ _ => .none
  | .pnT _ _ => .none
  | .obj _ _ _ => .none
  | .cls _ => .none
  | .xcl _ _ => .none
def toPys : List D → List PyData
  | [] => []
  | d :: ds => toPy d :: toPys ds
def toPyK : List (Key × D) → List (PyData × PyData)
  | [] => []
  | (k, d) :: ds => (keyPy k, toPy d) :: toPyK ds
end
/-! no dict, no object within -/
mutual
def plain : D → Bool
  | .non => true
  | .bl _ => true
  | .int _ => true
  | .str _ => true
  | .lst ds => plains ds
  | .scr ds => plains ds
  | .tup ds => plains ds
  | .dic _ => false
  | .dit _ => false
  | .dkl _ => false
  | .dtl _ => false
  | .pnK _ _ => false
  | .pnT _ _ => false
  | .obj _ _ _ => false
  | .cls _ => false
  | .xcl _ _ => false
def plains : List D → Bool
  | [] => true
  | d :: ds => plain d && plains ds
end
section
variable {K : Fg} {H : Hp}
mutual
theorem Rep.dp : ∀ {v : V} {d : D}, Rep K H v d → plain d = true → Dp K H v (toPy d)
  | _, _, .non, _ => by rw [toPy]; exact .non
  | _, _, .bl b, _ => by rw [toPy]; exact .bl b
  | _, _, .int i, _ => by rw [toPy]; exact .int i
  | _, _, .str x, _ => by rw [toPy]; exact .str x
  | _, _, .lst h r, e => by rw [toPy]; exact .lst (SqL.of h) (Reps.dp r (by rw [plain] at e; exact e))
  | _, _, .scr h r, e => by rw [toPy]; exact .lst h (Reps.dp r (by rw [plain] at e; exact e))
  | _, _, .tup h r, e => by rw [toPy]; exact .tup (SqT.of h) (Reps.dp r (by rw [plain] at e; exact e))
  | _, _, .dic _ _, e => by rw [plain] at e; cases e
  | _, _, .dit _ _, e => by rw [plain] at e; cases e
  | _, _, .dkl _ _, e => by rw [plain] at e; cases e
  | _, _, .dtl _ _, e => by rw [plain] at e; cases e
  | _, _, .pnK _, e => by rw [plain] at e; cases e
  | _, _, .pnT _, e => by rw [plain] at e; cases e
  | _, _, .obj _ _ _, e => by rw [plain] at e; cases e
  | _, _, .cls _, e => by rw [plain] at e; cases e
  | _, _, .xcl _, e => by rw [plain] at e; cases e
theorem Reps.dp : ∀ {v : List V} {d : List D}, Reps K H v d → plains d = true → DpAll K H v (toPys d)
  | _, _, .nil, _ => by rw [toPys]; exact .nil
  | _, _, .cons h r, e => by
    rw [plains, Bool.and_eq_true] at e
    rw [toPys]; exact .cons (Rep.dp h e.1) (Reps.dp r e.2)
end
end
theorem B2.dp {K : Fg} {O : List Addr} {H : Hp} {v : V} {d : D} (h : B2 K O H v d) (e : plain d = true) : Dp K H v (toPy d) := by
  rcases h with h | ⟨l, o, rfl, h1, h⟩
  · exact (h.mono hide_same).dp e
  · exact ((h.mono hide_same).rep h1).dp e
/-- two data may be compared by == -/
def okE (d : D) : Bool := plain d && SeqAt.shaped (toPy d)
def eqv (a b : D) : Bool := PyData.eqv (toPy a) (toPy b)
/-! ### operators -/
def addD : D → D → (Res → Prop) → Prop
  | .int i, .int j, Q => Q (.val (.int (i + j)))
  | .lst xs, .lst ys, Q => xs.length + ys.length ≤ 100000 ∧ Q (.fr (.lst (xs ++ ys)))
  | .str x, .str y, Q => x.length + y.length ≤ 100000 ∧ Q (.val (.str (x ++ y)))
  | _, _, _ => False
def subD : D → D → (Res → Prop) → Prop
  | .int i, .int j, Q => Q (.val (.int (i - j)))
  | _, _, _ => False
def MulOk (i j : Int) : Prop := CMul i j ∨ CMulW i j
def mulD : D → D → (Res → Prop) → Prop
  | .int i, .int j, Q => MulOk i j ∧ Q (.val (.int (i * j)))
  | .lst xs, .int k, Q => (-(2 ^ 63) ≤ k ∧ k < 2 ^ 63 ∧ xs.length * k.toNat ≤ 100000) ∧ Q (.fr (.lst (List.replicate k.toNat xs).flatten))
  | _, _, _ => False
def fdivD : D → D → (Res → Prop) → Prop
  | .int i, .int j, Q => CDivW i j ∧ Q (.val (.int (i / j)))
  | _, _, _ => False
def modD : D → D → (Res → Prop) → Prop
  | .int i, .int j, Q => 0 < j ∧ Q (.val (.int (i % j)))
  | _, _, _ => False
def PowOk (i j : Int) : Prop := 0 ≤ j ∧ (Builtin.Int.intBits i : Int) * j ≤ 2 ^ 27
def powD : D → D → (Res → Prop) → Prop
  | .int i, .int j, Q => PowOk i j ∧ Q (.val (.int (i ^ j.toNat)))
  | _, _, _ => False
def negD : D → (Res → Prop) → Prop
  | .int i, Q => Q (.val (.int (-i)))
  | _, _ => False
def ltD : D → D → (Res → Prop) → Prop
  | .int i, .int j, Q => Q (.val (.bl (decide (i < j))))
  | _, _, _ => False
def leD : D → D → (Res → Prop) → Prop
  | .int i, .int j, Q => Q (.val (.bl (decide (i ≤ j))))
  | _, _, _ => False
def gtD : D → D → (Res → Prop) → Prop
  | .int i, .int j, Q => Q (.val (.bl (decide (j < i))))
  | _, _, _ => False
def geD : D → D → (Res → Prop) → Prop
  | .int i, .int j, Q => Q (.val (.bl (decide (j ≤ i))))
  | _, _, _ => False
def eqD (a b : D) (Q : Res → Prop) : Prop := okE a = true ∧ okE b = true ∧ Q (.val (.bl (eqv a b)))
def neD (a b : D) (Q : Res → Prop) : Prop := okE a = true ∧ okE b = true ∧ Q (.val (.bl (!eqv a b)))
def isNonD : D → Bool
  | .non => true
  | _ => false
/-- x is None, x is True (x a truth value) -/
def isD : D → D → (Res → Prop) → Prop
  | .bl x, .bl y, Q => Q (.val (.bl (decide (x = y))))
  | a, .non, Q => Q (.val (.bl (isNonD a)))
  | _, _, _ => False
def isNotD : D → D → (Res → Prop) → Prop
  | .bl x, .bl y, Q => Q (.val (.bl (!decide (x = y))))
  | a, .non, Q => Q (.val (.bl (!isNonD a)))
  | _, _, _ => False
/-- x[i] -/
def ixD : D → D → (Res → Prop) → Prop
  | .lst ds, .int i, Q => ∃ d, atI ds i = some d ∧ Q (.val d)
  | .tup ds, .int i, Q => ∃ d, atI ds i = some d ∧ Q (.val d)
  | .str z, .int i, Q => z.length ≤ 100000 ∧ ∃ c, atI z.cps.toList i = some c ∧ Q (.val (.str ⟨#[c]⟩))
  | _, _, _ => False
section
variable {X : Cx} {K : Fg}
def uAdd : R2 := fun x y H Q => (∃ i j, x = .int i ∧ y = .int j ∧ Q (.int (i + j)) H) ∨ (rCat x y H Q ∨ ∃ i j, x = .str i ∧ y = .str j ∧ i.length + j.length ≤ sizeLine ∧ Q (.str (i ++ j)) H)
theorem op_uAdd : OpR X (binaryOp .Add) uAdd := op_add.or (op_cat.or op_add_str)
theorem sz5 {n : Nat} (h : n ≤ 100000) : n ≤ sizeLine := Nat.le_trans h (by decide)
theorem sim_add : SimR2 K uAdd addD := fun O H x y a b Qd Q h1 h2 q k => by
  unfold addD at q
  split at q
  · obtain rfl := h1.int; obtain rfl := h2.int
    exact .inl ⟨_, _, rfl, rfl, k.val _ _ (.int _) q⟩
  · obtain ⟨p1, vs, rfl, e1, r1⟩ := h1.lst
    obtain ⟨p2, ws, rfl, e2, r2⟩ := h2.lst
    exact .inr (.inl ⟨p1, p2, vs, ws, rfl, rfl, e1, e2, by rw [r1.length, r2.length]; exact sz5 q.1, fun p hp => k.new p _ _ hp (.lst (r1.append r2)) q.2⟩)
  · obtain rfl := h1.str; obtain rfl := h2.str
    exact .inr (.inr ⟨_, _, rfl, rfl, sz5 q.1, k.val _ _ (.str _) q.2⟩)
  · exact q.elim
theorem sim_I0 {g : Int → Int → Int} {f : D → D → (Res → Prop) → Prop} (hf : ∀ a b Qd, f a b Qd → ∃ i j, a = .int i ∧ b = .int j ∧ Qd (.val (.int (g i j)))) : SimR2 K (rI0 fun i j => .int (g i j)) f := fun O H x y a b Qd Q h1 h2 q k => by
  obtain ⟨i, j, rfl, rfl, q2⟩ := hf a b Qd q
  obtain rfl := h1.int; obtain rfl := h2.int
  exact ⟨i, j, rfl, rfl, k.val _ _ (.int _) q2⟩
theorem sim_B0 {g : Int → Int → Bool} {f : D → D → (Res → Prop) → Prop} (hf : ∀ a b Qd, f a b Qd → ∃ i j, a = .int i ∧ b = .int j ∧ Qd (.val (.bl (g i j)))) : SimR2 K (rI0 fun i j => .bl (g i j)) f := fun O H x y a b Qd Q h1 h2 q k => by
  obtain ⟨i, j, rfl, rfl, q2⟩ := hf a b Qd q
  obtain rfl := h1.int; obtain rfl := h2.int
  exact ⟨i, j, rfl, rfl, k.val _ _ (.bl _) q2⟩
theorem sim_I {Cn : Int → Int → Prop} {g : Int → Int → Int} {f : D → D → (Res → Prop) → Prop} (hf : ∀ a b Qd, f a b Qd → ∃ i j, a = .int i ∧ b = .int j ∧ Cn i j ∧ Qd (.val (.int (g i j)))) : SimR2 K (rI Cn fun i j => .int (g i j)) f := fun O H x y a b Qd Q h1 h2 q k => by
  obtain ⟨i, j, rfl, rfl, c, q2⟩ := hf a b Qd q
  obtain rfl := h1.int; obtain rfl := h2.int
  exact ⟨i, j, rfl, rfl, c, k.val _ _ (.int _) q2⟩
theorem sim_sub : SimR2 K (rI0 fun i j => .int (i - j)) subD := sim_I0 fun a b Qd q => by
  unfold subD at q
  split at q
  · exact ⟨_, _, rfl, rfl, q⟩
  · exact q.elim
theorem sim_lt : SimR2 K (rI0 fun i j => .bl (decide (i < j))) ltD := sim_B0 fun a b Qd q => by
  unfold ltD at q
  split at q
  · exact ⟨_, _, rfl, rfl, q⟩
  · exact q.elim
theorem sim_le : SimR2 K (rI0 fun i j => .bl (decide (i ≤ j))) leD := sim_B0 fun a b Qd q => by
  unfold leD at q
  split at q
  · exact ⟨_, _, rfl, rfl, q⟩
  · exact q.elim
theorem sim_gt : SimR2 K (rI0 fun i j => .bl (decide (j < i))) gtD := sim_B0 fun a b Qd q => by
  unfold gtD at q
  split at q
  · exact ⟨_, _, rfl, rfl, q⟩
  · exact q.elim
theorem sim_ge : SimR2 K (rI0 fun i j => .bl (decide (j ≤ i))) geD := sim_B0 fun a b Qd q => by
  unfold geD at q
  split at q
  · exact ⟨_, _, rfl, rfl, q⟩
  · exact q.elim
theorem sim_fdiv : SimR2 K (rI CDivW fun i j => .int (i / j)) fdivD := sim_I fun a b Qd q => by
  unfold fdivD at q
  split at q
  · exact ⟨_, _, rfl, rfl, q.1, q.2⟩
  · exact q.elim
theorem sim_mod : SimR2 K (rI (fun _ j => 0 < j) fun i j => .int (i % j)) modD := sim_I fun a b Qd q => by
  unfold modD at q
  split at q
  · exact ⟨_, _, rfl, rfl, q.1, q.2⟩
  · exact q.elim
theorem op_powW : OpR X (binaryOp .Pow) (rI PowOk fun i j => .int (i ^ j.toNat)) := opI fun _ _ _ _ _ _ _ hc q => pow_int hc.1 hc.2 q
theorem sim_pow : SimR2 K (rI PowOk fun i j => .int (i ^ j.toNat)) powD := sim_I fun a b Qd q => by
  unfold powD at q
  split at q
  · exact ⟨_, _, rfl, rfl, q.1, q.2⟩
  · exact q.elim
theorem sim_neg : SimR1 K (rU fun i => .int (-i)) negD := fun O H x a Qd Q h1 q k => by
  unfold negD at q
  split at q
  · obtain rfl := h1.int
    exact ⟨_, rfl, k.val _ _ (.int _) q⟩
  · exact q.elim
def uMul : R2 := fun x y H Q => (rI CMul fun i j => .int (i * j)) x y H Q ∨ ((rI CMulW fun i j => .int (i * j)) x y H Q ∨ rRep x y H Q)
theorem op_uMul : OpR X (binaryOp .Mult) uMul := op_mul.or (op_mulW.or op_rep)
theorem sim_mul : SimR2 K uMul mulD := fun O H x y a b Qd Q h1 h2 q k => by
  unfold mulD at q
  split at q
  · obtain rfl := h1.int; obtain rfl := h2.int
    rcases q.1 with c | c
    · exact .inl ⟨_, _, rfl, rfl, c, k.val _ _ (.int _) q.2⟩
    · exact .inr (.inl ⟨_, _, rfl, rfl, c, k.val _ _ (.int _) q.2⟩)
  · obtain ⟨p1, vs, rfl, e1, r1⟩ := h1.lst
    obtain rfl := h2.int
    exact .inr (.inr ⟨p1, _, vs, rfl, rfl, e1, q.1.1, q.1.2.1, by rw [r1.length]; exact sz5 q.1.2.2, fun p hp => k.new p _ _ hp (.lst (r1.rep _)) q.2⟩)
  · exact q.elim
theorem sim_eq : SimR2 K (rEqD K) eqD := fun O H x y a b Qd Q h1 h2 q k => by
  obtain ⟨q1, q2, q⟩ := q
  unfold okE at q1 q2
  rw [Bool.and_eq_true] at q1 q2
  exact ⟨_, _, h1.dp q1.1, h2.dp q2.1, q1.2, q2.2, k.val _ _ (.bl _) q⟩
theorem sim_ne : SimR2 K (rNeD K) neD := fun O H x y a b Qd Q h1 h2 q k => by
  obtain ⟨q1, q2, q⟩ := q
  unfold okE at q1 q2
  rw [Bool.and_eq_true] at q1 q2
  exact ⟨_, _, h1.dp q1.1, h2.dp q2.1, q1.2, q2.2, k.val _ _ (.bl _) q⟩
theorem Reps.atI {H : Hp} {vs : List V} {ds : List D} {i : Int} {d : D} (r : Reps K H vs ds) (h : L2.atI ds i = some d) : ∃ v, L2.atI vs i = some v ∧ Rep K H v d := by
  unfold L2.atI at h ⊢
  rw [r.length]
  cases e : ixN ds.length i with
  | none => rw [e] at h; cases h
  | some j =>
    rw [e] at h
    exact r.get h
theorem sim_ix : SimR2 K (rIx K) ixD := fun O H x y a b Qd Q h1 h2 q k => by
  unfold ixD at q
  split at q
  · obtain ⟨p, vs, rfl, e, r⟩ := h1.lst
    obtain rfl := h2.int
    obtain ⟨d, hd, q⟩ := q
    obtain ⟨v, hv, rv⟩ := r.atI hd
    exact .inl ⟨p, vs, _, v, rfl, rfl, SqL.of e, hv, k.val _ _ rv q⟩
  · obtain ⟨p, vs, rfl, e, r⟩ := h1.tup
    obtain rfl := h2.int
    obtain ⟨d, hd, q⟩ := q
    obtain ⟨v, hv, rv⟩ := r.atI hd
    exact .inr (.inl ⟨p, vs, _, v, rfl, rfl, SqT.of e, hv, k.val _ _ rv q⟩)
  · obtain rfl := h1.str
    obtain rfl := h2.int
    obtain ⟨hz, c, hc, q⟩ := q
    exact .inr (.inr ⟨_, _, c, rfl, rfl, sz5 hz, hc, k.val _ _ (.str _) q⟩)
  · exact q.elim
end
/-! ### rules -/
section
variable {X : Cx} {C : Ctx} {ta tb tc : TE} {ma mb mc : DTE} {a b c e : Expr} {pos : Pos}
theorem de_add (ha : DE X C a ta ma) (hb : DE X C b tb mb) : DE X C (.BinOp a .Add b pos) (tOp uAdd ta tb) (mOp addD ma mb) := de_op op_uAdd sim_add ha hb
theorem de_sub (ha : DE X C a ta ma) (hb : DE X C b tb mb) : DE X C (.BinOp a .Sub b pos) (tOp (rI0 fun i j => .int (i - j)) ta tb) (mOp subD ma mb) := de_op op_sub sim_sub ha hb
theorem de_mul (ha : DE X C a ta ma) (hb : DE X C b tb mb) : DE X C (.BinOp a .Mult b pos) (tOp uMul ta tb) (mOp mulD ma mb) := de_op op_uMul sim_mul ha hb
theorem de_fdiv (ha : DE X C a ta ma) (hb : DE X C b tb mb) : DE X C (.BinOp a .FloorDiv b pos) (tOp (rI CDivW fun i j => .int (i / j)) ta tb) (mOp fdivD ma mb) := de_op op_fdivW sim_fdiv ha hb
theorem de_mod (ha : DE X C a ta ma) (hb : DE X C b tb mb) : DE X C (.BinOp a .Mod b pos) (tOp (rI (fun _ j => 0 < j) fun i j => .int (i % j)) ta tb) (mOp modD ma mb) := de_op op_mod sim_mod ha hb
theorem de_pow (ha : DE X C a ta ma) (hb : DE X C b tb mb) : DE X C (.BinOp a .Pow b pos) (tOp (rI PowOk fun i j => .int (i ^ j.toNat)) ta tb) (mOp powD ma mb) := de_op op_powW sim_pow ha hb
theorem de_neg (ha : DE X C a ta ma) : DE X C (.UnaryOp .USub a pos) (tUn (rU fun i => .int (-i)) ta) (mUn negD ma) := de_un un_neg sim_neg ha
theorem de_lt (ha : DE X C a ta ma) (hb : DE X C b tb mb) : DE X C (.Compare a [.Lt] [b] pos) (tOp (rI0 fun i j => .bl (decide (i < j))) ta tb) (mOp ltD ma mb) := de_cmp op_lt sim_lt ha hb (nomark _)
theorem de_gt (ha : DE X C a ta ma) (hb : DE X C b tb mb) : DE X C (.Compare a [.Gt] [b] pos) (tOp (rI0 fun i j => .bl (decide (j < i))) ta tb) (mOp gtD ma mb) := de_cmp op_gt sim_gt ha hb (nomark _)
theorem de_ix (ha : DE X C a ta ma) (hb : DE X C b tb mb) (hs : PlainIx b := by intro _ _; rfl) {K0 : Fg} (hK0 : X.K = K0 := by rfl) (hK : K0 = C.K := by rfl) : DE X C (.Subscript a b pos) (tOp (rIx K0) ta tb) (mOp ixD ma mb) := by
  subst hK0
  exact (⟨pe_ix ix_seq ha.pe hb.pe hs, sim_op ha.sim hb.sim (by rw [hK]; exact sim_ix)⟩)
end
end DL
/-! the data layer, part 4: built-ins, slices, methods of built-in types over data -/
namespace DL
open PySem L2 PyProof.Rows
def ints? : List D → Option (List Int)
  | [] => some []
  | .int i :: ds => match ints? ds with
    | some ns => some (i :: ns)
    | none => none
  | _ :: _ => none
def bls? : List D → Option (List Bool)
  | [] => some []
  | .bl i :: ds => match bls? ds with
    | some ns => some (i :: ns)
    | none => none
  | _ :: _ => none
theorem ints?_eq : ∀ {ds : List D} {ns : List Int}, ints? ds = some ns → ds = ns.map D.int
  | [], ns, h => by cases h; rfl
  | d :: ds, ns, h => by
    cases d <;> simp only [ints?] at h <;> try cases h
    split at h
    · rename_i ms e
      cases h
      rw [ints?_eq e]; rfl
    · cases h
theorem bls?_eq : ∀ {ds : List D} {ns : List Bool}, bls? ds = some ns → ds = ns.map D.bl
  | [], ns, h => by cases h; rfl
  | d :: ds, ns, h => by
    cases d <;> simp only [bls?] at h <;> try cases h
    split at h
    · rename_i ms e
      cases h
      rw [bls?_eq e]; rfl
    · cases h
theorem ints?_map : ∀ ns : List Int, ints? (ns.map D.int) = some ns
  | [] => rfl
  | n :: ns => by rw [List.map_cons, ints?, ints?_map ns]
theorem bls?_map : ∀ ns : List Bool, bls? (ns.map D.bl) = some ns
  | [] => rfl
  | n :: ns => by rw [List.map_cons, bls?, bls?_map ns]
/-! ### built-ins by values -/
def lenD : List D → (Res → Prop) → Prop
  | [.lst ds], Q => Q (.val (.int ds.length))
  | [.scr ds], Q => Q (.val (.int ds.length))
  | [.tup ds], Q => Q (.val (.int ds.length))
  | [.str z], Q => z.length ≤ 100000 ∧ Q (.val (.int z.length))
  | [.dic kvs], Q => Q (.val (.int kvs.length))
  | _, _ => False
def intD : List D → (Res → Prop) → Prop
  | [.int i], Q => Q (.val (.int i))
  | [.bl b], Q => Q (.val (.int (if b then 1 else 0)))
  | _, _ => False
def absD : List D → (Res → Prop) → Prop
  | [.int i], Q => Q (.val (.int (i.natAbs : Int)))
  | _, _ => False
def minD : List D → (Res → Prop) → Prop
  | [.int i, .int j], Q => Q (.val (.int (min i j)))
  | [.tup ds], Q => ∃ ns, ints? ds = some ns ∧ 0 < ns.length ∧ ∀ m, m ∈ ns → (∀ y, y ∈ ns → m ≤ y) → Q (.val (.int m))
  | [.lst ds], Q => ∃ ns, ints? ds = some ns ∧ 0 < ns.length ∧ ∀ m, m ∈ ns → (∀ y, y ∈ ns → m ≤ y) → Q (.val (.int m))
  | _, _ => False
def maxD : List D → (Res → Prop) → Prop
  | [.int i, .int j], Q => Q (.val (.int (max i j)))
  | [.int i, .int j, .int l], Q => Q (.val (.int (max i (max j l))))
  | [.tup ds], Q => ∃ ns, ints? ds = some ns ∧ 0 < ns.length ∧ ∀ m, m ∈ ns → (∀ y, y ∈ ns → y ≤ m) → Q (.val (.int m))
  | [.lst ds], Q => ∃ ns, ints? ds = some ns ∧ 0 < ns.length ∧ ∀ m, m ∈ ns → (∀ y, y ∈ ns → y ≤ m) → Q (.val (.int m))
  | _, _ => False
def sumD : List D → (Res → Prop) → Prop
  | [.lst ds], Q => ∃ ns, ints? ds = some ns ∧ Q (.val (.int ns.sum))
  | [.tup ds], Q => ∃ ns, ints? ds = some ns ∧ Q (.val (.int ns.sum))
  | _, _ => False
def rSumT (K : Fg) : List V → Hp → VK → Prop := fun vs H Q => ∃ (a : Addr) (ns : List Int), vs = [V.ref a] ∧ SqT K H a (ns.map V.int) ∧ Q (.int ns.sum) H
theorem cr_sumT {X : Cx} (hc : X.calm = true) : CallR X (.builtin "sum") (rSumT X.K) := by
  intro pins s σ H vs us Q I r h
  obtain ⟨a, ns, rfl, hs, q⟩ := h
  obtain ⟨its, rv, hl, _⟩ := I.tuple hs
  rw [Vals.ref1 r]
  have hi : PyProof.Rows.IntsAre its ns := rv.ints
  obtain ⟨xs, e⟩ := hi.allInts.items
  have hn : PySem.numsOf (intItems xs).toList = ns := by rw [← e]; exact hi.numsOf
  rw [PySem.nums_intItems] at hn
  have hl : s.heap.IsTuple a its.toArray := hl
  rw [e] at hl
  refine PySem.W.ktm_sumG (I.ok.hd hc) hl fun h' tk t' hk => ?_
  refine ⟨.int _, H, I.kept hk, ⟨_, rfl⟩, ?_⟩
  rw [PySem.preSum_eq, List.take_of_length_le (by simp), hn]
  exact q
section
variable {prog : Program} {w : World} {A : Around} {E : Value → Shared → Prop} {s : Shared} {t : Addr} {xs : Array (Int × Tok)} {its : List Value} {ns : List Int}
theorem iter_tup {Q : Value → Shared → Prop} (hl : s.heap.IsTuple t (intItems xs))
    (h : ∀ s₂ : Shared, s₂ = { s with heap := s.heap.push { cls := .type "tuple_iterator", data := .fields #[.ref t, .int 0 0] } } →
      (s₂.heap.IsTupleIter s.heap.objs.size t 0 ∧ s₂.heap.IsTuple t (intItems xs)) → (∀ b ∈ [s.heap.objs.size, t], b < s₂.heap.objs.size) → t ≠ s.heap.objs.size → Q (.ref s.heap.objs.size) s₂) :
    wpAny (model prog w) A (pyIter (.ref t)) Q E s := by
  have hlt : t < s.heap.objs.size := by obtain ⟨_, e, _⟩ := hl; exact Heap.lt_size e
  refine wpAny_pyIter_tuple hl (h _ rfl ⟨⟨_, Heap.get?_push_size _ rfl, rfl, rfl⟩, hl.push _⟩ (fun b hb => ?_) (Nat.ne_of_lt hlt))
  show b < (s.heap.push _).objs.size
  rw [Heap.size_push]
  rcases List.mem_cons.mp hb with rfl | hb
  · exact Nat.lt_succ_self _
  · rcases List.mem_cons.mp hb with rfl | hb
    · exact Nat.lt_succ_of_lt hlt
    · cases hb
theorem old_tup {h' : Heap} (hk : ∀ b o, b ∉ [s.heap.objs.size] → (s.heap.push { cls := .type "tuple_iterator", data := .fields #[.ref t, .int 0 0] }).get? b = some o → h'.get? b = some o) :
    ∀ b o, s.heap.get? b = some o → h'.get? b = some o := fun b o e => by
  refine hk b o (fun hm => ?_) (Heap.get?_push_of_some _ e)
  rcases List.mem_cons.mp hm with e1 | hm
  · exact absurd (e1 ▸ Heap.lt_size e) (Nat.lt_irrefl _)
  · cases hm
theorem max_tup {Q : Value → Shared → Prop} (hh : A.handled = none) (hl : s.heap.IsTuple t its.toArray) (hi : PyProof.Rows.IntsAre its ns) (hne : 0 < ns.length)
    (h : ∀ h' tk M t', (∀ b o, s.heap.get? b = some o → h'.get? b = some o) → M ∈ ns → (∀ a, a ∈ ns → a ≤ M) → Q (.int M t') { s with heap := h', toks := tk }) : wpAny (model prog w) A (call (.builtin "max") [.ref t]) Q E s := by
  obtain ⟨xs, e⟩ := hi.allInts.items
  have hn : PySem.numsOf (intItems xs).toList = ns := by rw [← e]; exact hi.numsOf
  rw [PySem.nums_intItems] at hn
  subst hn
  rw [e] at hl
  have hsz : 0 < xs.size := by simpa using hne
  refine call_max_walk (iter_tup hl fun s₂ e st hfp hlI => ?_)
  subst e
  refine ⟨_, _, _, _, _, _, _, rfl, Walks.tuple (A := A.in1) hh _ t hlI (intItems xs), st, hfp, by simpa [intItems] using hsz, CmpOf.ints_gt (numAt xs) (fun _ _ => intItems_at), fun v h' tk hP hk => ?_⟩
  have hv : (intItems xs)[PySem.argBest (fun i j => decide (numAt xs i > numAt xs j)) (xs.size - 1)]? = some v := by simpa [intItems] using hP
  obtain ⟨t', rfl⟩ := intItems_at hv
  obtain ⟨h1, h2⟩ := PySem.argBest_gt (numAt xs) (xs.size - 1)
  refine h h' tk _ t' (old_tup hk) ?_ fun a ha => ?_
  · rw [PySem.numAt_eq]; exact PySem.getD_mem (by rw [List.length_map, Array.length_toList]; omega)
  · obtain ⟨j, hj, rfl⟩ := mem_getD ha
    rw [List.length_map, Array.length_toList] at hj
    rw [← PySem.numAt_eq]; exact h2 j (by omega)
theorem min_tup {Q : Value → Shared → Prop} (hh : A.handled = none) (hl : s.heap.IsTuple t its.toArray) (hi : PyProof.Rows.IntsAre its ns) (hne : 0 < ns.length)
    (h : ∀ h' tk M t', (∀ b o, s.heap.get? b = some o → h'.get? b = some o) → M ∈ ns → (∀ a, a ∈ ns → M ≤ a) → Q (.int M t') { s with heap := h', toks := tk }) : wpAny (model prog w) A (call (.builtin "min") [.ref t]) Q E s := by
  obtain ⟨xs, e⟩ := hi.allInts.items
  have hn : PySem.numsOf (intItems xs).toList = ns := by rw [← e]; exact hi.numsOf
  rw [PySem.nums_intItems] at hn
  subst hn
  rw [e] at hl
  have hsz : 0 < xs.size := by simpa using hne
  refine call_min_walk (iter_tup hl fun s₂ e st hfp hlI => ?_)
  subst e
  refine ⟨_, _, _, _, _, _, _, rfl, Walks.tuple (A := A.in1) hh _ t hlI (intItems xs), st, hfp, by simpa [intItems] using hsz, CmpOf.ints_lt (numAt xs) (fun _ _ => intItems_at), fun v h' tk hP hk => ?_⟩
  have hv : (intItems xs)[PySem.argBest (fun i j => decide (numAt xs i < numAt xs j)) (xs.size - 1)]? = some v := by simpa [intItems] using hP
  obtain ⟨t', rfl⟩ := intItems_at hv
  obtain ⟨h1, h2⟩ := PySem.argBest_lt (numAt xs) (xs.size - 1)
  refine h h' tk _ t' (old_tup hk) ?_ fun a ha => ?_
  · rw [PySem.numAt_eq]; exact PySem.getD_mem (by rw [List.length_map, Array.length_toList]; omega)
  · obtain ⟨j, hj, rfl⟩ := mem_getD ha
    rw [List.length_map, Array.length_toList] at hj
    rw [← PySem.numAt_eq]; exact h2 j (by omega)
end
def rMaxT (K : Fg) : List V → Hp → VK → Prop := fun vs H Q => ∃ (a : Addr) (ns : List Int), vs = [V.ref a] ∧ SqT K H a (ns.map V.int) ∧ 0 < ns.length ∧ ∀ m, m ∈ ns → (∀ y, y ∈ ns → y ≤ m) → Q (.int m) H
def rMinT (K : Fg) : List V → Hp → VK → Prop := fun vs H Q => ∃ (a : Addr) (ns : List Int), vs = [V.ref a] ∧ SqT K H a (ns.map V.int) ∧ 0 < ns.length ∧ ∀ m, m ∈ ns → (∀ y, y ∈ ns → m ≤ y) → Q (.int m) H
theorem cr_maxT {X : Cx} (hc : X.calm = true) : CallR X (.builtin "max") (rMaxT X.K) := by
  intro pins s σ H vs us Q I r h
  obtain ⟨a, ns, rfl, hs, hne, q⟩ := h
  obtain ⟨its, rv, hl, _⟩ := I.tuple hs
  rw [Vals.ref1 r]
  exact max_tup (I.ok.hd hc) hl rv.ints hne fun h' tk m t' hk h1 h2 => ⟨.int _, H, I.kept hk, ⟨_, rfl⟩, q m h1 h2⟩
theorem cr_minT {X : Cx} (hc : X.calm = true) : CallR X (.builtin "min") (rMinT X.K) := by
  intro pins s σ H vs us Q I r h
  obtain ⟨a, ns, rfl, hs, hne, q⟩ := h
  obtain ⟨its, rv, hl, _⟩ := I.tuple hs
  rw [Vals.ref1 r]
  exact min_tup (I.ok.hd hc) hl rv.ints hne fun h' tk m t' hk h1 h2 => ⟨.int _, H, I.kept hk, ⟨_, rfl⟩, q m h1 h2⟩
def uSum (K : Fg) : List V → Hp → VK → Prop := fun vs H Q => rSum K vs H Q ∨ rSumT K vs H Q
theorem cr_uSum {X : Cx} (hc : X.calm = true) : CallR X (.builtin "sum") (uSum X.K) := (cr_sum hc).or (cr_sumT hc)
def allD : List D → (Res → Prop) → Prop
  | [.lst ds], Q => ∃ ns, bls? ds = some ns ∧ Q (.val (.bl (ns.all id)))
  | _, _ => False
def anyD : List D → (Res → Prop) → Prop
  | [.lst ds], Q => ∃ ns, bls? ds = some ns ∧ Q (.val (.bl (ns.any id)))
  | _, _ => False
def listD : List D → (Res → Prop) → Prop
  | [.lst ds], Q => Q (.fr (.lst ds))
  | [.scr ds], Q => Q (.fr (.lst ds))
  | [.tup ds], Q => Q (.fr (.lst ds))
  | _, _ => False
def tupleD : List D → (Res → Prop) → Prop
  | [.lst ds], Q => Q (.val (.tup ds))
  | [.tup ds], Q => Q (.val (.tup ds))
  | _, _ => False
def divmodD : List D → (Res → Prop) → Prop
  | [.int i, .int j], Q => CDiv i j ∧ Q (.val (.tup [.int (i / j), .int (i % j)]))
  | _, _ => False
section
variable {K : Fg} {O : List Addr} {H : Hp} {x y : V}
theorem B2s.one {vs : List V} {d : D} (h : B2s K O H vs [d]) : ∃ v, vs = [v] ∧ B2 K O H v d := by
  cases h with | cons h t => cases t; exact ⟨_, rfl, h⟩
theorem B2s.two {vs : List V} {d e : D} (h : B2s K O H vs [d, e]) : ∃ v w, vs = [v, w] ∧ B2 K O H v d ∧ B2 K O H w e := by
  cases h with | cons h t => cases t with | cons h' t => cases t; exact ⟨_, _, rfl, h, h'⟩
theorem B2s.three {vs : List V} {d e f : D} (h : B2s K O H vs [d, e, f]) : ∃ v w z, vs = [v, w, z] ∧ B2 K O H v d ∧ B2 K O H w e ∧ B2 K O H z f := by
  cases h with | cons h t => cases t with | cons h' t => cases t with | cons h'' t => cases t; exact ⟨_, _, _, rfl, h, h', h''⟩
theorem RepK.length : ∀ {vs : List (Key × V)} {ds : List (Key × D)}, RepK K H vs ds → vs.length = ds.length
  | _, _, .nil => rfl
  | _, _, .cons _ r => by rw [List.length_cons, List.length_cons, RepK.length r]
end
section
variable {X : Cx} {K : Fg}
def uLen (K : Fg) : List V → Hp → VK → Prop := fun xs H Q => (∃ x n, xs = [x] ∧ LenV K x H n ∧ Q (.int n) H) ∨ ∃ a kvs, xs = [V.ref a] ∧ H a = some (.dK kvs) ∧ Q (.int kvs.length) H
theorem cr_uLen : CallR X (.builtin "len") (uLen X.K) := call_len.or call_lenD
theorem sim_len : SimRC K (uLen K) lenD := fun O H vs ds Qd Q h q k => by
  unfold lenD at q
  split at q
  · obtain ⟨v, rfl, hb⟩ := h.one
    obtain ⟨p, vs, rfl, e, r⟩ := hb.lst
    exact .inl ⟨_, vs.length, rfl, .inl ⟨vs, SqL.of e, rfl⟩, k.val _ _ (by rw [r.length]; exact .int _) q⟩
  · obtain ⟨v, rfl, hb⟩ := h.one
    obtain ⟨p, vs, rfl, e, r⟩ := hb.scr
    exact .inl ⟨_, vs.length, rfl, .inl ⟨vs, e, rfl⟩, k.val _ _ (by rw [r.length]; exact .int _) q⟩
  · obtain ⟨v, rfl, hb⟩ := h.one
    obtain ⟨p, vs, rfl, e, r⟩ := hb.tup
    exact .inl ⟨_, vs.length, rfl, .inr ⟨vs, SqT.of e, rfl⟩, k.val _ _ (by rw [r.length]; exact .int _) q⟩
  · obtain ⟨v, rfl, hb⟩ := h.one
    obtain rfl := hb.str
    exact .inl ⟨_, _, rfl, ⟨sz5 q.1, rfl⟩, k.val _ _ (.int _) q.2⟩
  · obtain ⟨v, rfl, hb⟩ := h.one
    obtain ⟨p, vs, rfl, e, r⟩ := hb.dic
    exact .inr ⟨p, vs, rfl, e, k.val _ _ (by rw [r.length]; exact .int _) q⟩
  · exact q.elim
def uInt : List V → Hp → VK → Prop := fun xs H Q => (∃ i, xs = [.int i] ∧ Q (.int i) H) ∨ ∃ k, xs = [.bl k] ∧ Q (.int (if k then 1 else 0)) H
theorem sim_int : SimRC K uInt intD := fun O H vs ds Qd Q h q k => by
  unfold intD at q
  split at q
  · obtain ⟨v, rfl, hb⟩ := h.one
    obtain rfl := hb.int
    exact .inl ⟨_, rfl, k.val _ _ (.int _) q⟩
  · obtain ⟨v, rfl, hb⟩ := h.one
    obtain rfl := hb.bl
    exact .inr ⟨_, rfl, k.val _ _ (.int _) q⟩
  · exact q.elim
def uAbs : List V → Hp → VK → Prop := fun xs H Q => ∃ i, xs = [.int i] ∧ Q (.int (if i < 0 then -i else i)) H
theorem sim_abs : SimRC K uAbs absD := fun O H vs ds Qd Q h q k => by
  unfold absD at q
  split at q
  · rename_i i
    obtain ⟨v, rfl, hb⟩ := h.one
    obtain rfl := hb.int
    refine ⟨_, rfl, k.val _ _ ?_ q⟩
    rw [show ((i.natAbs : Nat) : Int) = if i < 0 then -i else i by split <;> omega]
    exact .int _
  · exact q.elim
def uMin (K : Fg) : List V → Hp → VK → Prop := fun xs H Q => (∃ i j, xs = [.int i, .int j] ∧ Q (.int (if j < i then j else i)) H) ∨ (rMin K xs H Q ∨ rMinT K xs H Q)
theorem cr_uMin (hc : X.calm = true) : CallR X (.builtin "min") (uMin X.K) := (call_min2 hc).or ((cr_min hc).or (cr_minT hc))
theorem sim_min : SimRC K (uMin K) minD := fun O H vs ds Qd Q h q k => by
  unfold minD at q
  split at q
  · rename_i i j
    obtain ⟨v, w, rfl, h1, h2⟩ := h.two
    obtain rfl := h1.int
    obtain rfl := h2.int
    refine .inl ⟨_, _, rfl, k.val _ _ ?_ q⟩
    rw [show min i j = if j < i then j else i by split <;> omega]
    exact .int _
  · obtain ⟨v, rfl, hb⟩ := h.one
    obtain ⟨p, vs, rfl, e, r⟩ := hb.tup
    obtain ⟨ns, e1, h0, q⟩ := q
    obtain rfl := ints?_eq e1
    obtain rfl := r.ints
    exact .inr (.inr ⟨p, ns, rfl, SqT.of e, h0, fun m h1 h2 => k.val _ _ (.int _) (q m h1 h2)⟩)
  · obtain ⟨v, rfl, hb⟩ := h.one
    obtain ⟨p, vs, rfl, e, r⟩ := hb.lst
    obtain ⟨ns, e1, h0, q⟩ := q
    obtain rfl := ints?_eq e1
    obtain rfl := r.ints
    exact .inr (.inl ⟨p, ns, rfl, SqL.of e, h0, fun m h1 h2 => k.val _ _ (.int _) (q m h1 h2)⟩)
  · exact q.elim
def uMax (K : Fg) : List V → Hp → VK → Prop := fun xs H Q => (∃ i j, xs = [.int i, .int j] ∧ Q (.int (if j > i then j else i)) H) ∨ (∃ i j l, xs = [.int i, .int j, .int l] ∧ Q (.int (if j > i then (if l > j then l else j) else (if l > i then l else i))) H) ∨ (rMax K xs H Q ∨ rMaxT K xs H Q)
theorem call_max3 (hc : X.calm = true) : CallR X (.builtin "max") (fun xs H Q => ∃ i j l, xs = [.int i, .int j, .int l] ∧ Q (.int (if j > i then (if l > j then l else j) else (if l > i then l else i))) H) := by
  intro pins s σ H xs us Q I r h
  obtain ⟨i, j, l, rfl, q⟩ := h
  cases r with
  | cons r1 r =>
    obtain ⟨u, w', rfl, r2, r3⟩ := vals2 r
    obtain ⟨t, rfl⟩ := r1
    obtain ⟨t2, rfl⟩ := r2
    obtain ⟨t3, rfl⟩ := r3
    refine max_three_ints (I.ok.hd hc) fun h' tk k => ⟨_, H, I.kept k, ?_, q⟩
    by_cases h1 : j > i
    · rw [if_pos h1, if_pos h1]
      by_cases h2 : l > j
      · rw [if_pos h2, if_pos h2]; exact ⟨_, rfl⟩
      · rw [if_neg h2, if_neg h2]; exact ⟨_, rfl⟩
    · rw [if_neg h1, if_neg h1]
      by_cases h2 : l > i
      · rw [if_pos h2, if_pos h2]; exact ⟨_, rfl⟩
      · rw [if_neg h2, if_neg h2]; exact ⟨_, rfl⟩
theorem cr_uMax (hc : X.calm = true) : CallR X (.builtin "max") (uMax X.K) := (call_max2 hc).or ((call_max3 hc).or ((cr_max hc).or (cr_maxT hc)))
theorem sim_max : SimRC K (uMax K) maxD := fun O H vs ds Qd Q h q k => by
  unfold maxD at q
  split at q
  · rename_i i j
    obtain ⟨v, w, rfl, h1, h2⟩ := h.two
    obtain rfl := h1.int
    obtain rfl := h2.int
    refine .inl ⟨_, _, rfl, k.val _ _ ?_ q⟩
    rw [show max i j = if j > i then j else i by split <;> omega]
    exact .int _
  · rename_i i j l
    obtain ⟨v, w, z, rfl, h1, h2, h3⟩ := h.three
    obtain rfl := h1.int
    obtain rfl := h2.int
    obtain rfl := h3.int
    refine .inr (.inl ⟨_, _, _, rfl, k.val _ _ ?_ q⟩)
    rw [show max i (max j l) = if j > i then (if l > j then l else j) else (if l > i then l else i) by split <;> split <;> omega]
    exact .int _
  · obtain ⟨v, rfl, hb⟩ := h.one
    obtain ⟨p, vs, rfl, e, r⟩ := hb.tup
    obtain ⟨ns, e1, h0, q⟩ := q
    obtain rfl := ints?_eq e1
    obtain rfl := r.ints
    exact .inr (.inr (.inr ⟨p, ns, rfl, SqT.of e, h0, fun m h1 h2 => k.val _ _ (.int _) (q m h1 h2)⟩))
  · obtain ⟨v, rfl, hb⟩ := h.one
    obtain ⟨p, vs, rfl, e, r⟩ := hb.lst
    obtain ⟨ns, e1, h0, q⟩ := q
    obtain rfl := ints?_eq e1
    obtain rfl := r.ints
    exact .inr (.inr (.inl ⟨p, ns, rfl, SqL.of e, h0, fun m h1 h2 => k.val _ _ (.int _) (q m h1 h2)⟩))
  · exact q.elim
theorem sim_sum : SimRC K (uSum K) sumD := fun O H vs ds Qd Q h q k => by
  unfold sumD at q
  split at q
  · obtain ⟨v, rfl, hb⟩ := h.one
    obtain ⟨p, vs, rfl, e, r⟩ := hb.lst
    obtain ⟨ns, e1, q⟩ := q
    obtain rfl := ints?_eq e1
    obtain rfl := r.ints
    exact .inl ⟨p, ns, rfl, SqL.of e, k.val _ _ (.int _) q⟩
  · obtain ⟨v, rfl, hb⟩ := h.one
    obtain ⟨p, vs, rfl, e, r⟩ := hb.tup
    obtain ⟨ns, e1, q⟩ := q
    obtain rfl := ints?_eq e1
    obtain rfl := r.ints
    exact .inr ⟨p, ns, rfl, SqT.of e, k.val _ _ (.int _) q⟩
  · exact q.elim
theorem sim_all : SimRC K (rAll K) allD := fun O H vs ds Qd Q h q k => by
  unfold allD at q
  split at q
  · obtain ⟨v, rfl, hb⟩ := h.one
    obtain ⟨p, vs, rfl, e, r⟩ := hb.lst
    obtain ⟨ns, e1, q⟩ := q
    obtain rfl := bls?_eq e1
    obtain rfl := r.bls
    exact ⟨p, ns, rfl, SqL.of e, k.val _ _ (.bl _) q⟩
  · exact q.elim
def uList (K : Fg) : List V → Hp → VK → Prop := fun xs H Q => ∃ p ys, xs = [.ref p] ∧ (SqL K H p ys ∨ SqT K H p ys) ∧ ∀ l, H l = none → Q (.ref l) (upd H l (.lst ys))
theorem sim_list : SimRC K (uList K) listD := fun O H vs ds Qd Q h q k => by
  unfold listD at q
  split at q
  · obtain ⟨v, rfl, hb⟩ := h.one
    obtain ⟨p, vs, rfl, e, r⟩ := hb.lst
    exact ⟨p, vs, rfl, .inl (SqL.of e), fun l hl => k.new l _ _ hl (.lst r) q⟩
  · obtain ⟨v, rfl, hb⟩ := h.one
    obtain ⟨p, vs, rfl, e, r⟩ := hb.scr
    exact ⟨p, vs, rfl, .inl e, fun l hl => k.new l _ _ hl (.lst r) q⟩
  · obtain ⟨v, rfl, hb⟩ := h.one
    obtain ⟨p, vs, rfl, e, r⟩ := hb.tup
    exact ⟨p, vs, rfl, .inr (SqT.of e), fun l hl => k.new l _ _ hl (.lst r) q⟩
  · exact q.elim
def uTuple (K : Fg) : List V → Hp → VK → Prop := fun xs H Q => ∃ p ys, xs = [.ref p] ∧ ((SqL K H p ys ∧ ∀ l, H l = none → Q (.ref l) (upd H l (.tup ys))) ∨ (SqT K H p ys ∧ Q (.ref p) H))
theorem sim_tuple : SimRC K (uTuple K) tupleD := fun O H vs ds Qd Q h q k => by
  unfold tupleD at q
  split at q
  · obtain ⟨v, rfl, hb⟩ := h.one
    obtain ⟨p, vs, rfl, e, r⟩ := hb.lst
    exact ⟨p, vs, rfl, .inl ⟨SqL.of e, fun l hl => k.newT l _ _ hl r q⟩⟩
  · obtain ⟨v, rfl, hb⟩ := h.one
    rcases hb with h1 | ⟨l, o, _, _, h1⟩
    · cases h1 with
      | tup h r => exact ⟨_, _, rfl, .inr ⟨SqT.of (hide_same _ _ (by assumption)), k.val _ _ (.tup (by assumption) r) q⟩⟩
    · cases h1
  · exact q.elim
def uDivmod : List V → Hp → VK → Prop := fun xs H Q => ∃ i j, xs = [.int i, .int j] ∧ CDiv i j ∧ ∀ p, H p = none → Q (.ref p) (upd H p (.tup [.int (i / j), .int (i % j)]))
theorem sim_divmod : SimRC K uDivmod divmodD := fun O H vs ds Qd Q h q k => by
  unfold divmodD at q
  split at q
  · obtain ⟨v, w, rfl, h1, h2⟩ := h.two
    obtain rfl := h1.int
    obtain rfl := h2.int
    exact ⟨_, _, rfl, q.1, fun p hp => k.newT p _ _ hp (.cons (.int _) (.cons (.int _) .nil)) q.2⟩
  · exact q.elim
end
/-! ### slices -/
def DOo (X : Cx) (C : Ctx) (e : Option Expr) (t : TO) (m : Env → (Option Int → Env → Prop) → Prop) : Prop := PO X e t ∧ ∀ (Γ : Env) (O : List Addr) (σ : L2.St) (H : Hp) (Qd : Option Int → Env → Prop) (Q : Option Int → Hp → Prop), RelO C Γ O σ H → m Γ Qd →
  (∀ b Γ' H', RelO C Γ' O σ H' → Same (hide O H) (hide O H') → Qd b Γ' → Q b H') → t σ H Q
def mNoP : Env → (Option Int → Env → Prop) → Prop := fun Γ Q => Q none Γ
def mPart (ma : DTE) : Env → (Option Int → Env → Prop) → Prop := fun Γ Q => ma Γ fun r Γ1 => ∃ i, r = .val (.int i) ∧ Q (some i) Γ1
def cutD (xs : List D) (lo hi : Option Int) : List D := (xs.drop (HT.sIx xs.length 0 lo)).take (HT.sIx xs.length xs.length hi - HT.sIx xs.length 0 lo)
theorem Reps.cut {K : Fg} {H : Hp} {vs : List V} {ds : List D} (r : Reps K H vs ds) (lo hi : Option Int) : Reps K H (cutV vs lo hi) (cutD ds lo hi) := by
  unfold cutV cutD
  rw [r.length]
  exact (r.drop _).take _
def slD : D → Option Int → Option Int → (Res → Prop) → Prop
  | .lst ds, lo, hi, Q => Q (.fr (.lst (cutD ds lo hi)))
  | .scr ds, lo, hi, Q => Q (.fr (.lst (cutD ds lo hi)))
  | .str z, lo, hi, Q => z.length ≤ 100000 ∧ Q (.val (.str (cutS z lo hi)))
  | .tup ds, lo, hi, Q => Q (.val (.tup (cutD ds lo hi)))
  | _, _, _, _ => False
theorem cutD_whole {ds : List D} {lo hi : Option Int} (h : HT.sIx ds.length 0 lo = 0 ∧ HT.sIx ds.length ds.length hi = ds.length) : cutD ds lo hi = ds := by
  unfold cutD
  rw [h.1, h.2, List.drop_zero, Nat.sub_zero, List.take_length]
def mSl (f : D → Option Int → Option Int → (Res → Prop) → Prop) (ma : DTE) (ml mh : Env → (Option Int → Env → Prop) → Prop) : DTE := fun Γ Q => ma Γ fun r Γ1 => ml Γ1 fun lo Γ2 => mh Γ2 fun hi Γ3 => ∃ d, rd Γ3 r = some d ∧ f d lo hi fun r => Q r Γ3
section
variable {X : Cx} {C : Ctx} {ta : TE} {ma : DTE} {a e : Expr} {pos p2 : Pos}
theorem do_none : DOo X C none tNoPart mNoP := ⟨po_none, fun Γ O σ H Qd Q R h k => k none Γ H R (L2.Same.refl _) h⟩
theorem do_some (h : DE X C e ta ma) : DOo X C (some e) (tPart ta) (mPart ma) := ⟨po_some h.pe, fun Γ O σ H Qd Q R hm k => h.sim Γ O σ H _ _ R hm fun r Γ1 v H1 R1 e1 q1 => by
  obtain ⟨i, rfl, q⟩ := q1
  exact ⟨i, (show B2 C.K O H1 v (.int i) from .inl R1.2).int, k (some i) Γ1 H1 R1.rel e1.1 q⟩⟩
def uSl (K : Fg) : V → Option Int → Option Int → Hp → VK → Prop := fun x lo hi H Q => rSlL K x lo hi H Q ∨ (rSlS x lo hi H Q ∨ rSlA K x lo hi H Q)
theorem sl_u : SlR X (uSl X.K) := sl_list.or (sl_str.or sl_tupA)
theorem de_sl {lo hi : Option Expr} {tl th : TO} {ml mh : Env → (Option Int → Env → Prop) → Prop} (he : DE X C a ta ma) (hl : DOo X C lo tl ml) (hh : DOo X C hi th mh) {K0 : Fg} (hK0 : X.K = K0 := by rfl) (hK : K0 = C.K := by rfl) :
    DE X C (.Subscript a (.Slice lo hi none p2) pos) (tSl (uSl K0) ta tl th) (mSl slD ma ml mh) := by
  subst hK0
  refine ⟨pe_slice sl_u he.pe hl.1 hh.1, fun Γ O σ H Qd Q R h k => ?_⟩
  refine he.sim Γ O σ H _ _ R h fun r Γ1 v H1 R1 e1 q1 => ?_
  refine hl.2 Γ1 O σ H1 _ _ R1.rel q1 fun i1 Γ2 H2 R2 e2 q2 => ?_
  refine hh.2 Γ2 O σ H2 _ _ R2 q2 fun i2 Γ3 H3 R3 e3 q3 => ?_
  obtain ⟨d, hd, q⟩ := q3
  have b := (R1.pend.mono (L2.Same.trans e2 e3)).b2 R3 hd
  have o := outs_of R3 (L2.Same.trans e1.1 (L2.Same.trans e2 e3)) k
  unfold slD at q
  split at q
  · obtain ⟨p, vs, rfl, e, r⟩ := b.lst
    exact .inl ⟨p, vs, rfl, SqL.of e, fun p hp => o.new p _ _ hp (.lst (r.cut _ _)) q⟩
  · obtain ⟨p, vs, rfl, e, r⟩ := b.scr
    rw [hK]
    exact .inl ⟨p, vs, rfl, e, fun p hp => o.new p _ _ hp (.lst (r.cut _ _)) q⟩
  · obtain rfl := b.str
    exact .inr (.inl ⟨_, rfl, sz5 q.1, o.val _ _ (.str _) q.2⟩)
  · have hR : ∀ ds, B2 C.K O H3 v (.tup ds) → Rep C.K (hide O H3) v (.tup ds) := fun ds h => by
      rcases h with h | ⟨l, o, _, _, ho⟩
      · exact h
      · cases ho
    have hb := hR _ b
    obtain ⟨p, vs, rfl, e, r⟩ := b.tup
    rw [hK]
    refine .inr (.inr ⟨p, vs, rfl, SqT.of e, fun hw => ?_, fun _ p hp => o.newT p _ _ hp (r.cut _ _) q⟩)
    rw [r.length] at hw
    rw [cutD_whole hw] at q
    exact o.val _ _ hb q
  · exact q.elim
/-- xs[::-1] -/
def mRevL (ma : DTE) : DTE := fun Γ Q => ma Γ fun r Γ1 => ∃ ds, rd Γ1 r = some (.lst ds) ∧ Q (.fr (.lst ds.reverse)) Γ1
/-! ### built-ins by name -/
variable {x : Str} {p : Pos} {b : Expr} {tb : TE} {mb : DTE} {tr : TA} {mr : DTA} {es : List Expr}
theorem de_abs (hg : Gl X "abs") (hm : X.mg "abs" = none) (ha : DA X C (e :: es) tr mr)
    (he : starEach (e :: es) X.env = (false, eval e X.env) :: starEach es X.env := by rfl) (hpl : (backTo pos (starEach es X.env)).any (·.1) = false := by rfl) :
    DE X C (.Call (.Name "abs" p) (e :: es) [] pos) (tCB uAbs tr) (mCB absD mr) := de_cb call_abs sim_abs hg hm (by decide +kernel) ha (he := he) (hpl := hpl)
theorem de_len (hg : Gl X "len") (hm : X.mg "len" = none) (ha : DA X C (e :: es) tr mr) {K0 : Fg} (hK0 : X.K = K0 := by rfl) (hK : K0 = C.K := by rfl)
    (he : starEach (e :: es) X.env = (false, eval e X.env) :: starEach es X.env := by rfl) (hpl : (backTo pos (starEach es X.env)).any (·.1) = false := by rfl) :
    DE X C (.Call (.Name "len" p) (e :: es) [] pos) (tCB (uLen K0) tr) (mCB lenD mr) := by
  subst hK0
  exact (de_cb cr_uLen (by rw [hK]; exact sim_len) hg hm (by decide +kernel) ha (he := he) (hpl := hpl))
theorem de_intc (hg : Gl X "int") (hm : X.mg "int" = none) (ha : DA X C (e :: es) tr mr)
    (he : starEach (e :: es) X.env = (false, eval e X.env) :: starEach es X.env := by rfl) (hpl : (backTo pos (starEach es X.env)).any (·.1) = false := by rfl) :
    DE X C (.Call (.Name "int" p) (e :: es) [] pos) (tCB uInt tr) (mCB intD mr) := de_ct call_int1 sim_int hg hm (by decide +kernel) ha (he := he) (hpl := hpl)
theorem de_min (hc : X.calm = true) (hg : Gl X "min") (hm : X.mg "min" = none) (ha : DA X C (e :: es) tr mr) {K0 : Fg} (hK0 : X.K = K0 := by rfl) (hK : K0 = C.K := by rfl)
    (he : starEach (e :: es) X.env = (false, eval e X.env) :: starEach es X.env := by rfl) (hpl : (backTo pos (starEach es X.env)).any (·.1) = false := by rfl) :
    DE X C (.Call (.Name "min" p) (e :: es) [] pos) (tCB (uMin K0) tr) (mCB minD mr) := by
  subst hK0
  exact (de_cb (cr_uMin hc) (by rw [hK]; exact sim_min) hg hm (by decide +kernel) ha (he := he) (hpl := hpl))
theorem de_max (hc : X.calm = true) (hg : Gl X "max") (hm : X.mg "max" = none) (ha : DA X C (e :: es) tr mr) {K0 : Fg} (hK0 : X.K = K0 := by rfl) (hK : K0 = C.K := by rfl)
    (he : starEach (e :: es) X.env = (false, eval e X.env) :: starEach es X.env := by rfl) (hpl : (backTo pos (starEach es X.env)).any (·.1) = false := by rfl) :
    DE X C (.Call (.Name "max" p) (e :: es) [] pos) (tCB (uMax K0) tr) (mCB maxD mr) := by
  subst hK0
  exact (de_cb (cr_uMax hc) (by rw [hK]; exact sim_max) hg hm (by decide +kernel) ha (he := he) (hpl := hpl))
theorem de_sum (hc : X.calm = true) (hg : Gl X "sum") (hm : X.mg "sum" = none) (ha : DA X C (e :: es) tr mr) {K0 : Fg} (hK0 : X.K = K0 := by rfl) (hK : K0 = C.K := by rfl)
    (he : starEach (e :: es) X.env = (false, eval e X.env) :: starEach es X.env := by rfl) (hpl : (backTo pos (starEach es X.env)).any (·.1) = false := by rfl) :
    DE X C (.Call (.Name "sum" p) (e :: es) [] pos) (tCB (uSum K0) tr) (mCB sumD mr) := by
  subst hK0
  exact (de_cb (cr_uSum hc) (by rw [hK]; exact sim_sum) hg hm (by decide +kernel) ha (he := he) (hpl := hpl))
theorem de_all (hc : X.calm = true) (hg : Gl X "all") (hm : X.mg "all" = none) (ha : DA X C (e :: es) tr mr) {K0 : Fg} (hK0 : X.K = K0 := by rfl) (hK : K0 = C.K := by rfl)
    (he : starEach (e :: es) X.env = (false, eval e X.env) :: starEach es X.env := by rfl) (hpl : (backTo pos (starEach es X.env)).any (·.1) = false := by rfl) :
    DE X C (.Call (.Name "all" p) (e :: es) [] pos) (tCB (rAll K0) tr) (mCB allD mr) := by
  subst hK0
  exact (de_cb (cr_all hc) (by rw [hK]; exact sim_all) hg hm (by decide +kernel) ha (he := he) (hpl := hpl))
theorem de_list (hg : Gl X "list") (hm : X.mg "list" = none) (ha : DA X C (e :: es) tr mr) {K0 : Fg} (hK0 : X.K = K0 := by rfl) (hK : K0 = C.K := by rfl)
    (he : starEach (e :: es) X.env = (false, eval e X.env) :: starEach es X.env := by rfl) (hpl : (backTo pos (starEach es X.env)).any (·.1) = false := by rfl) :
    DE X C (.Call (.Name "list" p) (e :: es) [] pos) (tCB (uList K0) tr) (mCB listD mr) := by
  subst hK0
  exact (de_ct call_list_of (by rw [hK]; exact sim_list) hg hm (by decide +kernel) ha (he := he) (hpl := hpl))
theorem de_tuple (hg : Gl X "tuple") (hm : X.mg "tuple" = none) (ha : DA X C (e :: es) tr mr) {K0 : Fg} (hK0 : X.K = K0 := by rfl) (hK : K0 = C.K := by rfl)
    (he : starEach (e :: es) X.env = (false, eval e X.env) :: starEach es X.env := by rfl) (hpl : (backTo pos (starEach es X.env)).any (·.1) = false := by rfl) :
    DE X C (.Call (.Name "tuple" p) (e :: es) [] pos) (tCB (uTuple K0) tr) (mCB tupleD mr) := by
  subst hK0
  exact (de_ct call_tuple_of (by rw [hK]; exact sim_tuple) hg hm (by decide +kernel) ha (he := he) (hpl := hpl))
theorem de_divmod (hg : Gl X "divmod") (hm : X.mg "divmod" = none) (ha : DA X C (e :: es) tr mr)
    (he : starEach (e :: es) X.env = (false, eval e X.env) :: starEach es X.env := by rfl) (hpl : (backTo pos (starEach es X.env)).any (·.1) = false := by rfl) :
    DE X C (.Call (.Name "divmod" p) (e :: es) [] pos) (tCB uDivmod tr) (mCB divmodD mr) := de_cb call_divmod sim_divmod hg hm (by decide +kernel) ha (he := he) (hpl := hpl)
/-- list(range(b)), list(range(a, b)) -/
def rgD (a b : Int) : List D := (List.range (b - a).toNat).map fun i => D.int (a + (i : Nat))
theorem Reps.rg {K : Fg} {H : Hp} (a b : Int) : Reps K H (rgV a b) (rgD a b) := by
  have h : ∀ l : List Nat, Reps K H (l.map fun i => V.int (a + (i : Nat))) (l.map fun i => D.int (a + (i : Nat))) := fun l => by
    induction l with
    | nil => exact .nil
    | cons x l ih => exact .cons (.int _) ih
  exact h _
def mRg1 (ma : DTE) : Env → (Int → Int → Env → Prop) → Prop := fun Γ Q => ma Γ fun r Γ1 => ∃ n, r = .val (.int n) ∧ Q 0 n Γ1
def mRg2 (ma mb : DTE) : Env → (Int → Int → Env → Prop) → Prop := fun Γ Q => ma Γ fun r Γ1 => mb Γ1 fun r2 Γ2 => ∃ i j, r = .val (.int i) ∧ r2 = .val (.int j) ∧ Q i j Γ2
def mLRg (mg : Env → (Int → Int → Env → Prop) → Prop) : DTE := fun Γ Q => mg Γ fun a b Γ1 => RgOk a b ∧ Q (.fr (.lst (rgD a b))) Γ1
def mTRg (mg : Env → (Int → Int → Env → Prop) → Prop) : DTE := fun Γ Q => mg Γ fun a b Γ1 => RgOk a b ∧ Q (.val (.tup (rgD a b))) Γ1
def DRg (X : Cx) (C : Ctx) (e : Expr) (t : L2.St → Hp → (Int → Int → Hp → Prop) → Prop) (m : Env → (Int → Int → Env → Prop) → Prop) : Prop := PRg X e t ∧ ∀ (Γ : Env) (O : List Addr) (σ : L2.St) (H : Hp) (Qd : Int → Int → Env → Prop) (Q : Int → Int → Hp → Prop), RelO C Γ O σ H → m Γ Qd →
  (∀ i j Γ' H', RelO C Γ' O σ H' → Same (hide O H) (hide O H') → Qd i j Γ' → Q i j H') → t σ H Q
theorem dr_1 (hg : Gl X "range") (hm : X.mg "range" = none) (ha : DE X C a ta ma) (na : starEach [a] X.env = (false, eval a X.env) :: starEach [] X.env := by rfl) : DRg X C (.Call (.Name "range" p) [a] [] pos) (tRg1 ta) (mRg1 ma) :=
  ⟨prg_1 hg hm ha.pe na, fun Γ O σ H Qd Q R h k => ha.sim Γ O σ H _ _ R h fun r Γ1 v H1 R1 e1 q1 => by
    obtain ⟨n, rfl, q⟩ := q1
    exact ⟨n, (show B2 C.K O H1 v (.int n) from .inl R1.2).int, k 0 n Γ1 H1 R1.rel e1.1 q⟩⟩
theorem de_listRg {tg : L2.St → Hp → (Int → Int → Hp → Prop) → Prop} {mg : Env → (Int → Int → Env → Prop) → Prop} (hc : X.calm = true) (hg : Gl X "list") (hm : X.mg "list" = none) (he : DRg X C e tg mg) (na : starEach [e] X.env = (false, eval e X.env) :: starEach [] X.env := by rfl) :
    DE X C (.Call (.Name "list" p) [e] [] pos) (tLstRg tg) (mLRg mg) := ⟨pe_listRg hc hg hm he.1 na, fun Γ O σ H Qd Q R h k => he.2 Γ O σ H _ _ R h fun i j Γ1 H1 R1 e1 q1 => ⟨q1.1, fun p hp => (outs_of R1 e1 k).new p _ _ hp (.lst (Reps.rg i j)) q1.2⟩⟩
end
end DL
/-! the data layer, part 5: what is walked, targets, comprehensions, statements -/
namespace DL
open PySem L2
/-! ### what a loop walks -/
/-- n turns that give the items; g: what must hold of the heap meanwhile -/
structure ItD (K : Fg) (J : It) (n : Nat) (g : List Addr → Hp → Prop) (items : List D) : Prop where
  len : items.length = n
  go : ∀ i O H, g O H → i < n → J.go i H
  stop : ∀ O H, g O H → J.stop n H
  yld : ∀ i O H x H', (∀ a ∈ O, Tk (H a)) → g O H → i < n → J.yld i H x H' → ∃ d, items[i]? = some d ∧ ((H' = H ∧ Rep K (hide O H) x d) ∨ ∃ p vs ds, x = .ref p ∧ H p = none ∧ H' = upd H p (.tup vs) ∧ Reps K (hide O H) vs ds ∧ d = .tup ds)
/-- where the items come from: nowhere; a shared datum; a place -/
inductive Src where
  | no
  | val (d : D)
  | pl (i : Nat) (d : D)
  | v2 (a b : D)
def SrcOk (C : Ctx) (Γ : Env) (O : List Addr) (σ : St) (H : Hp) (g : List Addr → Hp → Prop) : Src → Prop
  | .no => ∀ O' H', g O' H'
  | .val d => ∃ v, Rep C.K (hide O H) v d ∧ ∀ O' H', Rep C.K (hide O' H') v d → g O' H'
  | .pl i d => ∃ v, σ[i]? = some (some v) ∧ rd Γ (.pl i) = some d ∧ ∀ O' H', B2 C.K O' H' v d → g O' H'
  | .v2 a b => ∃ v w, Rep C.K (hide O H) v a ∧ Rep C.K (hide O H) w b ∧ ∀ O' H', Rep C.K (hide O' H') v a → Rep C.K (hide O' H') w b → g O' H'
abbrev DTI := Env → (Src → List D → Env → Prop) → Prop
def SimI (C : Ctx) (w : TI) (m : DTI) : Prop := ∀ (Γ : Env) (O : List Addr) (σ : St) (H : Hp) (Qd : Src → List D → Env → Prop) (R : It → Hp → Prop), RelO C Γ O σ H → m Γ Qd →
  (∀ src items Γ' J H' n g, RelO C Γ' O σ H' → Same (hide O H) (hide O H') → ItD C.K J n g items → SrcOk C Γ' O σ H' g src → Qd src items Γ' → R J H') → w σ H R
structure DI (X : Cx) (C : Ctx) (tg e : Expr) (w : TI) (m : DTI) : Prop where
  pi : PI X tg e w
  sim : SimI C w m
def srcOf (d : D) : Res → Src
  | .pl i => .pl i d
  | _ => .val d
def itemsOf : D → Option (List D)
  | .lst ds => some ds
  | .tup ds => some ds
  | _ => none
/-- for .. in e, e a list or a tuple -/
def mSeq (ma : DTE) : DTI := fun Γ Q => ma Γ fun r Γ1 => ∃ d ds, rd Γ1 r = some d ∧ itemsOf d = some ds ∧ Q (srcOf d r) ds Γ1
def iSeq (K : Fg) (tl : TE) : TI := fun σ H R => tl σ H fun x H1 => ∃ a, x = .ref a ∧ (((∃ xs, SqL K H1 a xs) ∧ R (Itl K a) H1) ∨ ((∃ xs, SqT K H1 a xs) ∧ R (Itt K a) H1))
section
variable {X : Cx} {C : Ctx} {tg l : Expr} {tl : TE} {ml : DTE} {pos p : Pos}
theorem pi_seq (hl : PE X l tl) : PI X tg l (iSeq X.K tl) := by
  refine ⟨fun pins s σ H R I h => ?_⟩
  refine thn (hl.run pins s σ H _ I h) fun v s1 ⟨x, H1, I1, r1, q1⟩ => ?_
  obtain ⟨a, e, q⟩ := q1
  subst e
  cases r1
  have fin : ∀ b ∈ [s1.heap.objs.size], FpOk X pins H1 b := fun b hb => by
    have e : b = s1.heap.objs.size := by simpa using hb
    subst e
    exact I1.fpOk (Nat.le_refl _) (I1.hok.fresh (Nat.le_refl _))
  rcases q with ⟨⟨xs, hq⟩, q⟩ | ⟨⟨xs, hq⟩, q⟩
  · obtain ⟨its, rv, pl, hz⟩ := I1.list hq
    exact wpAny_pyIter_list pl.isList ⟨_, [s1.heap.objs.size], _, _, H1, rfl, I1.kept (t' := s1.toks) fun b o e => Heap.get?_push_of_some _ e, turn_list a _, ⟨_, Heap.get?_push_size _ rfl, rfl, rfl⟩, fin, q⟩
  · obtain ⟨its, rv, pl, hz⟩ := I1.tuple hq
    exact wpAny_pyIter_tuple (show s1.heap.IsTuple a its.toArray from pl) ⟨_, [s1.heap.objs.size], _, _, H1, rfl, I1.kept (t' := s1.toks) fun b o e => Heap.get?_push_of_some _ e, turn_tuple a _, ⟨_, Heap.get?_push_size _ rfl, rfl, rfl⟩, fin, q⟩
theorem itd_list {K : Fg} {a : Addr} {ds : List D} : ItD K (Itl K a) ds.length (fun O H => B2 K O H (.ref a) (.lst ds)) ds where
  len := rfl
  go := fun i O H h hi => by
    obtain ⟨a', vs, e, h1, r⟩ := h.lst
    cases e
    have : i < vs.length := by rw [r.length]; exact hi
    exact ⟨vs, vs[i], SqL.of h1, by simp [this]⟩
  stop := fun O H h => by
    obtain ⟨a', vs, e, h1, r⟩ := h.lst
    cases e
    exact ⟨vs, SqL.of h1, by rw [r.length]; exact Nat.le_refl _⟩
  yld := fun i O H x H' _ h hi y => by
    obtain ⟨a', vs, e, h1, r⟩ := h.lst
    cases e
    obtain ⟨e, y⟩ := y
    obtain ⟨d, hd, hr⟩ := r.getV (y vs (SqL.of h1))
    exact ⟨d, hd, .inl ⟨e, hr⟩⟩
theorem itd_tup {K : Fg} {a : Addr} {ds : List D} : ItD K (Itt K a) ds.length (fun O H => B2 K O H (.ref a) (.tup ds)) ds where
  len := rfl
  go := fun i O H h hi => by
    obtain ⟨a', vs, e, h1, r⟩ := h.tup
    cases e
    have : i < vs.length := by rw [r.length]; exact hi
    exact ⟨vs, vs[i], SqT.of h1, by simp [this]⟩
  stop := fun O H h => by
    obtain ⟨a', vs, e, h1, r⟩ := h.tup
    cases e
    exact ⟨vs, SqT.of h1, by rw [r.length]; exact Nat.le_refl _⟩
  yld := fun i O H x H' _ h hi y => by
    obtain ⟨a', vs, e, h1, r⟩ := h.tup
    cases e
    obtain ⟨e, y⟩ := y
    obtain ⟨d, hd, hr⟩ := r.getV (y vs (SqT.of h1))
    exact ⟨d, hd, .inl ⟨e, hr⟩⟩
theorem src_of {C : Ctx} {Γ : Env} {O : List Addr} {σ : St} {H : Hp} {v : V} {d : D} {r : Res} {g : List Addr → Hp → Prop} (R : ROk C Γ O σ H v r) (hd : rd Γ r = some d) (hg : ∀ O' H', B2 C.K O' H' v d → g O' H') : SrcOk C Γ O σ H g (srcOf d r) := by
  cases r with
  | val d' => cases hd; exact ⟨v, R.2, fun O' H' h => hg O' H' (.inl h)⟩
  | fr d' => cases hd; exact ⟨v, R.2.rep, fun O' H' h => hg O' H' (.inl h)⟩
  | np a ds => cases hd; exact ⟨v, R.2.rep, fun O' H' h => hg O' H' (.inl h)⟩
  | pl i => exact ⟨v, R.2, hd, hg⟩
theorem di_seq (h : DE X C l tl ml) {K0 : Fg} (hK0 : X.K = K0 := by rfl) (hK : K0 = C.K := by rfl) : DI X C tg l (iSeq K0 tl) (mSeq ml) := by
  subst hK0
  refine ⟨pi_seq h.pe, fun Γ O σ H Qd R hR hm k => ?_⟩
  refine h.sim Γ O σ H _ _ hR hm fun r Γ1 v H1 R1 e1 q1 => ?_
  obtain ⟨d, ds, hd, hi, q⟩ := q1
  have b := R1.pend.b2 R1.rel hd
  unfold itemsOf at hi
  split at hi
  · cases hi
    obtain ⟨a, vs, rfl, e, _⟩ := b.lst
    exact ⟨a, rfl, .inl ⟨⟨vs, SqL.of e⟩, by rw [hK]; exact k _ _ Γ1 _ H1 _ _ R1.rel e1.1 itd_list (src_of R1 hd fun _ _ h => h) q⟩⟩
  · cases hi
    obtain ⟨a, vs, rfl, e, _⟩ := b.tup
    exact ⟨a, rfl, .inr ⟨⟨vs, SqT.of e⟩, by rw [hK]; exact k _ _ Γ1 _ H1 _ _ R1.rel e1.1 itd_tup (src_of R1 hd fun _ _ h => h) q⟩⟩
  · cases hi
/-- range -/
def rngD (lo : Int) (n : Nat) : List D := (List.range n).map fun i => D.int (lo + (i : Nat))
theorem rngD_get {lo : Int} {n i : Nat} (h : i < n) : (rngD lo n)[i]? = some (.int (lo + i)) := by
  unfold rngD
  rw [List.getElem?_map, List.getElem?_range h]; rfl
theorem itd_rng {K : Fg} {lo : Int} {n : Nat} : ItD K (Itr lo n) n (fun _ _ => True) (rngD lo n) where
  len := by unfold rngD; rw [List.length_map, List.length_range]
  go := fun i O H _ hi => hi
  stop := fun O H _ => Nat.le_refl _
  yld := fun i O H x H' _ _ hi y => by
    obtain ⟨e, rfl⟩ := y
    exact ⟨_, rngD_get hi, .inl ⟨e, .int _⟩⟩
def mRng1 (ma : DTA) : DTI := fun Γ Q => ma Γ fun rs Γ1 => ∃ j : Int, rs = [.val (.int j)] ∧ (-(2 ^ 62) ≤ j ∧ j < 2 ^ 62) ∧ Q .no (rngD 0 j.toNat) Γ1
def mRng2 (ma : DTA) : DTI := fun Γ Q => ma Γ fun rs Γ1 => ∃ i j : Int, rs = [.val (.int i), .val (.int j)] ∧ (-(2 ^ 62) ≤ i ∧ i < 2 ^ 62 ∧ -(2 ^ 62) ≤ j ∧ j < 2 ^ 62) ∧ Q .no (rngD i (j - i).toNat) Γ1
theorem pend_int {K : Fg} {O : List Addr} {σ : St} {H : Hp} {v : V} {i : Int} (h : Pend K O σ H v (.val (.int i))) : v = .int i := (show B2 K O H v (.int i) from .inl h).int
theorem di_rng1 {a : Expr} {ta : TA} {ma : DTA} (hg : Gl X "range") (hm : X.mg "range" = none) (ha : DA X C [a] ta ma) (hs : starEach [a] X.env = [(false, eval a X.env)] := by rfl) : DI X C tg (.Call (.Name "range" p) [a] [] pos) (iRng1 ta) (mRng1 ma) :=
  ⟨pi_range1 hg hm ha.pa hs, fun Γ O σ H Qd R hR hm k => ha.sim Γ O σ H _ _ hR hm fun rs Γ1 vs H1 R1 p1 e1 q1 => by
    obtain ⟨j, rfl, ⟨h1, h2⟩, q⟩ := q1
    cases p1 with
    | cons a t =>
      cases t
      exact ⟨j, by rw [pend_int a], h1, h2, k .no _ Γ1 _ H1 _ _ R1 e1 itd_rng (fun _ _ => trivial) q⟩⟩
theorem di_rng2 {a b : Expr} {ta : TA} {ma : DTA} (hg : Gl X "range") (hm : X.mg "range" = none) (ha : DA X C [a, b] ta ma) (hs : starEach [a, b] X.env = [(false, eval a X.env), (false, eval b X.env)] := by rfl) (hs2 : starEach [b] X.env = [(false, eval b X.env)] := by rfl) : DI X C tg (.Call (.Name "range" p) [a, b] [] pos) (iRng2 ta) (mRng2 ma) :=
  ⟨pi_range2 hg hm ha.pa hs hs2, fun Γ O σ H Qd R hR hm k => ha.sim Γ O σ H _ _ hR hm fun rs Γ1 vs H1 R1 p1 e1 q1 => by
    obtain ⟨i, j, rfl, hb, q⟩ := q1
    cases p1 with
    | cons a t =>
      cases t with
      | cons b t =>
        cases t
        exact ⟨i, j, by rw [pend_int a, pend_int b], hb, k .no _ Γ1 _ H1 _ _ R1 e1 itd_rng (fun _ _ => trivial) q⟩⟩
end
/-! ### targets -/
abbrev DTG := D → Env → (Env → Prop) → Prop
abbrev DTGs := List D → Env → (Env → Prop) → Prop
def SimG (C : Ctx) (g : TG) (m : DTG) : Prop := ∀ (Γ : Env) (O : List Addr) (σ : St) (H : Hp) (v : V) (d : D) (Qd : Env → Prop) (Q : St → Hp → Prop), RelO C Γ O σ H → Rep C.K (hide O H) v d → m d Γ Qd →
  (∀ Γ' σ' H', RelO C Γ' O σ' H' → Same (hide O H) (hide O H') → Qd Γ' → Q σ' H') → g v σ H Q
def SimGs (C : Ctx) (g : TGs) (m : DTGs) : Prop := ∀ (Γ : Env) (O : List Addr) (σ : St) (H : Hp) (vs : List V) (ds : List D) (Qd : Env → Prop) (Q : St → Hp → Prop), RelO C Γ O σ H → Reps C.K (hide O H) vs ds → m ds Γ Qd →
  (∀ Γ' σ' H', RelO C Γ' O σ' H' → Same (hide O H) (hide O H') → Qd Γ' → Q σ' H') → g vs σ H Q
structure DG (X : Cx) (C : Ctx) (e : Expr) (g : TG) (m : DTG) : Prop where
  pg : PG X e g
  sim : SimG C g m
structure DGs (X : Cx) (C : Ctx) (es : List Expr) (g : TGs) (m : DTGs) : Prop where
  pgs : PGs X es g
  sim : SimGs C g m
def freeB (Γ : Env) (i : Nat) : Bool := match Γ[i]? with
  | some (.io _) => false
  | some (.bo _) => false
  | some (.pn true _) => false
  | _ => true
theorem freeB_of {Γ : Env} {i : Nat} (h : freeB Γ i = true) : Free Γ i := by
  unfold freeB at h
  refine ⟨fun d e => ?_, fun d e => ?_, fun P e => ?_⟩ <;> rw [e] at h <;> cases h
def mgName (i : Nat) : DTG := fun d Γ Q => freeB Γ i = true ∧ Q (Γ.set i (.sh d))
def mgNil : DTGs := fun ds Γ Q => ds = [] ∧ Q Γ
def mgCons (m : DTG) (ms : DTGs) : DTGs := fun ds Γ Q => ∃ d r, ds = d :: r ∧ m d Γ fun Γ1 => ms r Γ1 Q
def mgTup (n : Nat) (ms : DTGs) : DTG := fun d Γ Q => ∃ ds, d = .tup ds ∧ ds.length = n ∧ ms ds Γ Q
/-- x[i] = d, x a place -/
def setC (Γ : Env) (i : Nat) (d : D) : Option Env := match Γ[i]? with
  | some (.ow _) => some (Γ.set i (.ow d))
  | some (.io _) => some (Γ.set i (.io d))
  | _ => none
def putK (k : Key) (d : D) : List (Key × D) → List (Key × D)
  | [] => [(k, d)]
  | (j, e) :: r => if j = k then (j, d) :: r else (j, e) :: putK k d r
def stD : D → D → D → (D → Prop) → Prop
  | .lst ds, .int k, x, Q => ∃ j, ixN ds.length k = some j ∧ Q (.lst (ds.set j x))
  | _, _, _, _ => False
def mgSub (mo mi : DTE) (f : D → D → D → (D → Prop) → Prop) : DTG := fun d Γ Q => mo Γ fun ro Γ1 => mi Γ1 fun ri Γ2 => ∃ i c k, ro = .pl i ∧ cont Γ2[i]? = some c ∧ rd Γ2 ri = some k ∧ f c k d fun c' => ∃ Γ3, setC Γ2 i c' = some Γ3 ∧ Q Γ3
section
variable {X : Cx} {C : Ctx} {pos : Pos} {g : TG} {m : DTG}
theorem sim_gName (i : Nat) : SimG C (gName i) (mgName i) := fun Γ O σ H v d Qd Q R r h k => k _ _ H (R.setSh (freeB_of h.1) r) (L2.Same.refl _) h.2
theorem sim_gNil : SimGs C gNil mgNil := fun Γ O σ H vs ds Qd Q R r h k => by
  obtain ⟨rfl, h⟩ := h
  cases r
  exact ⟨rfl, k _ _ H R (L2.Same.refl _) h⟩
theorem sim_gCons {gs : TGs} {ms : DTGs} (h1 : SimG C g m) (h2 : SimGs C gs ms) : SimGs C (gCons g gs) (mgCons m ms) := fun Γ O σ H vs ds Qd Q R r h k => by
  obtain ⟨d, ds', rfl, h⟩ := h
  cases r with
  | cons r rr =>
    exact ⟨_, _, rfl, h1 Γ O σ H _ d _ _ R r h fun Γ1 σ1 H1 R1 e1 q1 => h2 Γ1 O σ1 H1 _ ds' _ _ R1 (rr.mono e1) q1 fun Γ2 σ2 H2 R2 e2 q2 => k Γ2 σ2 H2 R2 (L2.Same.trans e1 e2) q2⟩
theorem sim_gTup {n : Nat} {gs : TGs} {ms : DTGs} (h2 : SimGs C gs ms) : SimG C (gTup C.K n gs) (mgTup n ms) := fun Γ O σ H v d Qd Q R r h k => by
  obtain ⟨ds, rfl, hl, h⟩ := h
  obtain ⟨a, vs, rfl, e, rr⟩ := (show B2 C.K O H v (.tup ds) from .inl r).tup
  exact ⟨a, vs, rfl, SqT.of e, by rw [rr.length]; exact hl, h2 Γ O σ H vs ds _ _ R rr h k⟩
theorem set_relO {Γ Γ' : Env} {O : List Addr} {σ : St} {H : Hp} {i : Nat} {l : Addr} {d : D} {o : HO} (R : RelO C Γ O σ H) (hs : setC Γ i d = some Γ') (hl : σ[i]? = some (some (.ref l))) (ho : OwnOk C.K (hide O H) o d) : RelO C Γ' O σ (upd H l o) ∧ Same (hide O H) (hide O (upd H l o)) := by
  unfold setC at hs
  split at hs
  · rename_i d0 e
    cases hs
    have hO : l ∈ O := R.mutIn (.inl ⟨⟨d0, .inl e⟩, hl⟩)
    refine ⟨R.mut e (.inl ⟨rfl, d, rfl⟩) hl fun d' h => ?_, by rw [hide_mut hO]; exact L2.Same.refl _⟩
    rcases h with h | h <;> cases h; exact ho
  · rename_i d0 e
    cases hs
    have hO : l ∈ O := R.mutIn (.inl ⟨⟨d0, .inr e⟩, hl⟩)
    refine ⟨R.mut e (.inr ⟨rfl, d, rfl⟩) hl fun d' h => ?_, by rw [hide_mut hO]; exact L2.Same.refl _⟩
    rcases h with h | h <;> cases h; exact ho
  · cases hs
theorem place_at {Γ Γ' : Env} {O : List Addr} {σ : St} {H : Hp} {i : Nat} {c d : D} {v : V} (R : RelO C Γ O σ H) (hs : setC Γ i d = some Γ') (hv : σ[i]? = some (some v)) (hc : cont Γ[i]? = some c) : ∃ l o, v = .ref l ∧ H l = some o ∧ OwnOk C.K (hide O H) o c := by
  unfold setC at hs
  split at hs
  · rename_i d0 e
    rw [e] at hc
    cases hc
    obtain ⟨l, o, h1, h2, h3, h4, h5⟩ := R.sl i _ e
    rw [hv] at h1; cases h1
    exact ⟨l, o, rfl, h4, h5⟩
  · rename_i d0 e
    rw [e] at hc
    cases hc
    obtain ⟨l, o, h1, h2, h3, h4, h5⟩ := R.sl i _ e
    rw [hv] at h1; cases h1
    exact ⟨l, o, rfl, h4, h5⟩
  · cases hs
theorem sim_gSub {to ti : TE} {mo mi : DTE} (ho : SimE C to mo) (hi : SimE C ti mi) : SimG C (gSub to ti rSetL) (mgSub mo mi stD) := fun Γ O σ H v d Qd Q R r h k => by
  refine ho Γ O σ H _ _ R h fun ro Γ1 o H1 R1 e1 q1 => ?_
  refine hi Γ1 O σ H1 _ _ R1.rel q1 fun ri Γ2 iv H2 R2 e2 q2 => ?_
  obtain ⟨i, c, kd, rfl, hc, hk, q⟩ := q2
  have hi := R2.pend.b2 R2.rel hk
  unfold stD at q
  split at q
  · obtain ⟨j, hj, Γ3, hs, q⟩ := q
    obtain ⟨l, ob, rfl, hl, hb⟩ := place_at R2.rel hs R1.2 hc
    cases hb with
    | lst rr =>
      rename_i vs
      obtain ⟨R3, e3⟩ := set_relO (o := .lst (vs.set j v)) R2.rel hs R1.2 (.lst (rr.set (r.mono (L2.Same.trans e1.1 e2.1)) j))
      exact ⟨l, vs, _, j, rfl, hi.int, hl, by rw [rr.length]; exact hj, k Γ3 σ _ R3 (L2.Same.trans e1.1 (L2.Same.trans e2.1 e3)) q⟩
  · exact q.elim
theorem dg_name (i : Nat) {x : Str} (h : PG X (.Name x pos) (gName i)) : DG X C (.Name x pos) (gName i) (mgName i) := ⟨h, sim_gName i⟩
theorem dgs_nil : DGs X C [] gNil mgNil := ⟨pgs_nil, sim_gNil⟩
theorem dgs_cons {e : Expr} {es : List Expr} {gs : TGs} {ms : DTGs} (h1 : DG X C e g m) (h2 : DGs X C es gs ms) (hs : (assignEach (e :: es) X.env).map (·.2) = assign e X.env :: (assignEach es X.env).map (·.2) := by rfl) : DGs X C (e :: es) (gCons g gs) (mgCons m ms) := ⟨pgs_cons h1.pg h2.pgs hs, sim_gCons h1.sim h2.sim⟩
theorem dg_tup {es : List Expr} {k : Nat} {gs : TGs} {ms : DTGs} {n : Nat} (hc : X.calm = true) (h : DGs X C es gs ms) (hn : (assignEach es X.env).length = n := by rfl) (hst : (assignEach es X.env).findIdx? (·.1) = none := by rfl) {K0 : Fg} (hK0 : X.K = K0 := by rfl) (hK : K0 = C.K := by rfl) : DG X C (.Tuple es k pos) (gTup K0 n gs) (mgTup n ms) := by
  subst hK0
  exact (⟨pg_tup hc h.pgs hn hst, by rw [hK]; exact sim_gTup h.sim⟩)
theorem dg_sub {o i : Expr} {to ti : TE} {mo mi : DTE} (h : PE X o to → PE X i ti → PG X (.Subscript o i pos) (gSub to ti rSetL)) (ho : DE X C o to mo) (hi : DE X C i ti mi) : DG X C (.Subscript o i pos) (gSub to ti rSetL) (mgSub mo mi stD) := ⟨h ho.pe hi.pe, sim_gSub ho.sim hi.sim⟩
end
end DL
/-! the data layer, part 6: comprehensions -/
namespace DL
open PySem L2
section
variable {C : Ctx} {Γ : Env} {O : List Addr} {σ : St} {H : Hp} {p : Addr} {o o' : HO}
theorem RelO.congrU {U : List (Addr × HO)} (R : RelO C Γ O σ H) (h : ∀ q ∈ U, H q.1 = some q.2 ∧ q.1 ∈ O ∧ ∀ i, ¬ MutAt Γ σ i q.1) : RelO { C with U := U } Γ O σ H :=
  ⟨fun i s e => by have := R.sl i s e; cases s <;> exact this, R.ds, R.fr, R.mm, R.bb, R.oo, R.al, R.ol, R.o0, R.tt, h, R.len⟩
theorem RelO.subU {U U' : List (Addr × HO)} (R : RelO { C with U := U } Γ O σ H) (h : ∀ q, q ∈ U' → q ∈ U) : RelO { C with U := U' } Γ O σ H :=
  RelO.congrU (C := { C with U := U }) R fun q hq => R.uu q (h q hq)
theorem RelO.backU {U : List (Addr × HO)} (R : RelO { C with U := U } Γ O σ H) (h : ∀ q, q ∈ C.U → q ∈ U) : RelO C Γ O σ H := R.subU (U' := C.U) h
theorem RelO.congrT {T : List (V × D)} (R : RelO C Γ O σ H) (h : ∀ q ∈ T, Rep C.K (hide O H) q.1 q.2) : RelO { C with T := T } Γ O σ H :=
  ⟨fun i s e => by have := R.sl i s e; cases s <;> exact this, R.ds, R.fr, R.mm, R.bb, R.oo, R.al, R.ol, R.o0, h, R.uu, R.len⟩
theorem RelO.backT {T : List (V × D)} (R : RelO { C with T := T } Γ O σ H) (h : ∀ q, q ∈ C.T → q ∈ T) : RelO C Γ O σ H :=
  RelO.congrT (C := { C with T := T }) R fun q hq => R.tt q (h q hq)
/-- an owned object that no slot holds changes -/
theorem RelO.updFree (R : RelO C Γ O σ H) (hp : p ∈ O) (h0 : C.H0 p = none) (hm : ∀ i, ¬ MutAt Γ σ i p) (hu : ∀ q ∈ C.U, q.1 ≠ p) (ht : Tk (some o) := by trivial) : RelO C Γ O σ (upd H p o) := by
  have eH : hide O (upd H p o) = hide O H := hide_mut hp
  refine ⟨fun i s e => ?_, R.ds, fun a u e n => ?_, R.mm, R.bb, R.oo, fun a ha => ?_, R.ol, R.o0, fun q hq => by rw [eH]; exact R.tt q hq, fun q hq => ⟨by rw [upd_ne (hu q hq)]; exact (R.uu q hq).1, (R.uu q hq).2⟩, R.len⟩
  · have q := R.sl i s e
    cases s with
    | no => trivial
    | sh d => obtain ⟨v, h1, h2⟩ := q; exact ⟨v, h1, by rw [eH]; exact h2⟩
    | ow d => obtain ⟨l, u, h1, h2, h3, h4, h5⟩ := q; exact ⟨l, u, h1, h2, h3, by rw [upd_ne fun z => hm i (.inl ⟨⟨d, .inl e⟩, by rw [← z]; exact h1⟩)]; exact h4, by rw [eH]; exact h5⟩
    | io d => obtain ⟨l, u, h1, h2, h3, h4, h5⟩ := q; exact ⟨l, u, h1, h2, h3, by rw [upd_ne fun z => hm i (.inl ⟨⟨d, .inr e⟩, by rw [← z]; exact h1⟩)]; exact h4, by rw [eH]; exact h5⟩
    | bo d => obtain ⟨v, h1, h2, h3⟩ := q; exact ⟨v, h1, h2, by rw [eH]; exact h3⟩
    | pn b P => exact ⟨q.1, fun c hc => ⟨(q.2.1 c hc).1, by rw [upd_ne fun z => hm i (.inr ⟨b, P, c.2, e, by rw [← z]; exact hc⟩)]; exact (q.2.1 c hc).2.1, (q.2.1 c hc).2.2⟩, by rw [eH]; exact q.2.2⟩
  · have hne : a ≠ p := fun z => by rw [z, h0] at e; cases e
    rw [upd_ne hne]; exact R.fr a u e n
  · by_cases z : a = p
    · rw [z, upd_same]; exact ht
    · rw [upd_ne z]; exact R.al a ha
/-- an owned address is let go -/
theorem RelO.letgo (R : RelO C Γ O σ H) (h0 : C.H0 p = none) (hm : ∀ i, ¬ MutAt Γ σ i p) (hu : ∀ q ∈ C.U, q.1 ≠ p) {O' : List Addr} (ho : ∀ a, a ∈ O' ↔ a ∈ O ∧ a ≠ p) : RelO C Γ O' σ H ∧ Same (hide O H) (hide O' H) := by
  have e : Same (hide O H) (hide O' H) := hide_sub fun a h => ((ho a).mp h).1
  refine ⟨⟨fun i s es => ?_, R.ds, R.fr, R.mm, R.bb, fun a ha => (ho a).mpr ⟨R.oo a ha, fun z => R.o0 a ha (by rw [z]; exact h0)⟩, fun a ha => R.al a ((ho a).mp ha).1, fun a ha => R.ol a ((ho a).mp ha).1, R.o0, fun q hq => (R.tt q hq).mono e, fun q hq => ⟨(R.uu q hq).1, (ho _).mpr ⟨(R.uu q hq).2.1, hu q hq⟩, (R.uu q hq).2.2⟩, R.len⟩, e⟩
  have q := R.sl i s es
  cases s with
  | no => trivial
  | sh d => obtain ⟨v, h1, h2⟩ := q; exact ⟨v, h1, h2.mono e⟩
  | ow d => obtain ⟨l, u, h1, h2, h3, h4, h5⟩ := q; exact ⟨l, u, h1, (ho l).mpr ⟨h2, fun z => hm i (.inl ⟨⟨d, .inl es⟩, by rw [← z]; exact h1⟩)⟩, h3, h4, h5.mono e⟩
  | io d => obtain ⟨l, u, h1, h2, h3, h4, h5⟩ := q; exact ⟨l, u, h1, h2, (ho l).mpr ⟨h3, fun z => hm i (.inl ⟨⟨d, .inr es⟩, by rw [← z]; exact h1⟩)⟩, h4, h5.mono e⟩
  | bo d =>
    obtain ⟨v, h1, h2, h3⟩ := q
    refine ⟨v, h1, h2, ?_⟩
    rcases h3 with h3 | ⟨l, u, h3, h4, h5, h6⟩
    · exact .inl (h3.mono e)
    · exact .inr ⟨l, u, h3, h4, h5, h6.mono e⟩
  | pn b P => exact ⟨q.1, fun c hc => ⟨(ho _).mpr ⟨(q.2.1 c hc).1, fun z => hm i (.inr ⟨b, P, c.2, es, by rw [← z]; exact hc⟩)⟩, (q.2.1 c hc).2⟩, fun t ht => (q.2.2 t ht).mono e⟩
end
/-! ### the slots of a comprehension's own names -/
def wipeD (Γ : Env) : List Nat → Env
  | [] => Γ
  | v :: vs => (wipeD Γ vs).set v .no
def restD (Γ Δ : Env) : List Nat → Env
  | [] => Δ
  | v :: vs => (restD Γ Δ vs).set v ((Γ[v]?).getD .no)
def okOwn (Γ : Env) : List Nat → Bool
  | [] => true
  | v :: vs => (match Γ[v]? with
    | some .no => true
    | some (.sh _) => true
    | _ => false) && okOwn Γ vs
theorem okOwn_at {Γ : Env} : ∀ {vs : List Nat} {i : Nat}, okOwn Γ vs = true → i ∈ vs → Γ[i]? = some .no ∨ ∃ d, Γ[i]? = some (.sh d)
  | [], _, _, h => absurd h (by simp)
  | v :: vs, i, e, h => by
    unfold okOwn at e
    rw [Bool.and_eq_true] at e
    rcases List.mem_cons.mp h with z | z
    · subst z
      have e1 := e.1
      split at e1
      · rename_i q; exact .inl q
      · rename_i d q; exact .inr ⟨d, q⟩
      · cases e1
    · exact okOwn_at e.2 z
theorem wipeD_get {Γ : Env} : ∀ {vs : List Nat} {i : Nat} {s : Sl}, (wipeD Γ vs)[i]? = some s → s = .no ∨ Γ[i]? = some s
  | [], _, _, h => .inr h
  | v :: vs, i, s, h => by
    unfold wipeD at h
    by_cases e : v = i
    · subst e
      exact .inl (get_set_same h).symm
    · rw [get_set_ne e] at h
      exact wipeD_get h
theorem restD_len {Γ Δ : Env} : ∀ vs : List Nat, (restD Γ Δ vs).length = Δ.length
  | [] => rfl
  | v :: vs => by unfold restD; rw [List.length_set, restD_len vs]
theorem restD_out {Γ Δ : Env} : ∀ {vs : List Nat} {i : Nat}, i ∉ vs → (restD Γ Δ vs)[i]? = Δ[i]?
  | [], _, _ => rfl
  | v :: vs, i, h => by
    unfold restD
    rw [get_set_ne fun e => h (by simp [e])]
    exact restD_out fun z => h (List.mem_cons_of_mem _ z)
theorem restD_in {Γ Δ : Env} : ∀ {vs : List Nat} {i : Nat} {s : Sl}, i ∈ vs → (restD Γ Δ vs)[i]? = some s → s = (Γ[i]?).getD .no
  | [], _, _, h, _ => absurd h (by simp)
  | v :: vs, i, s, h, e => by
    unfold restD at e
    by_cases z : v = i
    · subst z
      exact (get_set_same e).symm
    · rw [get_set_ne z] at e
      rcases List.mem_cons.mp h with q | q
      · exact absurd q.symm z
      · exact restD_in q e
section
variable {C : Ctx} {Γ Δ : Env} {O : List Addr} {σ σ2 : St} {H H' : Hp}
theorem RelO.wipe (R : RelO C Γ O σ H) : ∀ {vs : List Nat}, okOwn Γ vs = true → RelO C (wipeD Γ vs) O (L2.wipe σ vs) H
  | [], _ => R
  | v :: vs, h => by
    have h2 : okOwn Γ vs = true := by
      unfold okOwn at h
      rw [Bool.and_eq_true] at h
      exact h.2
    refine (RelO.wipe R h2).setNo ⟨fun d e => ?_, fun d e => ?_, fun P e => ?_⟩ none
    · rcases wipeD_get e with q | q
      · cases q
      · rcases okOwn_at h List.mem_cons_self with z | ⟨_, z⟩ <;> rw [q] at z <;> cases z
    · rcases wipeD_get e with q | q
      · cases q
      · rcases okOwn_at h List.mem_cons_self with z | ⟨_, z⟩ <;> rw [q] at z <;> cases z
    · rcases wipeD_get e with q | q
      · cases q
      · rcases okOwn_at h List.mem_cons_self with z | ⟨_, z⟩ <;> rw [q] at z <;> cases z
theorem RelO.rest {vs : List Nat} (R0 : RelO C Γ O σ H) (e : Same (hide O H) (hide O H')) (R : RelO C Δ O σ2 H') (hw : L2.wipe σ2 vs = L2.wipe σ vs) (hk : okOwn Γ vs = true) : RelO C (restD Γ Δ vs) O σ H' := by
  have same : ∀ {j : Nat}, j ∉ vs → σ[j]? = σ2[j]? := fun {j} h => by rw [← wipe_out h, ← hw, wipe_out h]
  have lenS : σ2.length = σ.length := by rw [← L2.wipe_length σ2 vs, hw, L2.wipe_length]
  have mutd : ∀ j a, MutAt (restD Γ Δ vs) σ j a → MutAt Δ σ2 j a := fun j a hh => by
    by_cases hj : j ∈ vs
    · exfalso
      rcases hh with ⟨⟨d, h | h⟩, h2⟩ | ⟨b, P, o, h, h2⟩ <;>
      · have q := restD_in hj h
        rcases okOwn_at hk hj with z | ⟨_, z⟩ <;> rw [z] at q <;> cases q
    · unfold MutAt at hh ⊢
      rwa [restD_out hj, same hj] at hh
  have out : ∀ {j : Nat} {s : Sl}, ((∃ d, s = .io d) ∨ (∃ d, s = .bo d) ∨ ∃ b P, s = .pn b P) → Γ[j]? = some s → j ∉ vs := fun {j s} hs h z => by
    rcases okOwn_at hk z with q | ⟨_, q⟩ <;> rw [h] at q <;> cases q <;> rcases hs with ⟨_, e⟩ | ⟨_, e⟩ | ⟨_, _, e⟩ <;> cases e
  refine ⟨fun j s h => ?_, fun i j a n h1 h2 => R.ds i j a n (mutd _ _ h1) (mutd _ _ h2), R.fr, fun q hq => ?_, fun q hq => ?_, R.oo, R.al, R.ol, R.o0, R.tt, fun q hq => ⟨(R.uu q hq).1, (R.uu q hq).2.1, fun j hj => (R.uu q hq).2.2 j (mutd _ _ hj)⟩, by rw [restD_len, R.len, lenS]⟩
  · by_cases hj : j ∈ vs
    · have q := restD_in hj h
      rcases okOwn_at hk hj with z | ⟨d, z⟩
      · rw [z] at q; subst q; trivial
      · rw [z] at q
        subst q
        obtain ⟨v, h1, h2⟩ := R0.sl j _ z
        exact ⟨v, h1, h2.mono e⟩
    · rw [restD_out hj] at h
      have q := R.sl j s h
      have es := same hj
      cases s with
      | no => trivial
      | sh d => unfold SlOk at q ⊢; rw [es]; exact q
      | ow d => unfold SlOk at q ⊢; rw [es]; exact q
      | io d => unfold SlOk at q ⊢; rw [es]; exact q
      | bo d => unfold SlOk at q ⊢; rw [es]; exact q
      | pn b P => unfold SlOk at q ⊢; rw [es]; exact q
  · have ho : q.1 ∉ vs := by
      rcases R0.mm q hq with ⟨_, d, h⟩ | ⟨_, _, P, h⟩
      · exact out (.inl ⟨d, rfl⟩) h
      · exact out (.inr (.inr ⟨true, P, rfl⟩)) h
    rw [restD_out ho, same ho]
    exact R.mm q hq
  · obtain ⟨d, h⟩ := (R0.bb q hq).2
    have ho := out (.inr (.inl ⟨d, rfl⟩)) h
    exact ⟨(R0.bb q hq).1, by rw [restD_out ho]; exact (R.bb q hq).2⟩
end
/-- what a source asks at each turn -/
def srcD (Γ : Env) : Src → Prop
  | .pl i d => rd Γ (.pl i) = some d
  | _ => True
def compM (src : Src) (mg : DTG) (mt : DTT) (me : DTE) (vs : List Nat) (Q : List D → Env → Prop) : List D → List D → Env → Prop
  | [], acc, Γ => srcD Γ src ∧ Q acc Γ
  | x :: xs, acc, Γ => srcD Γ src ∧ okOwn Γ vs = true ∧ mg x (wipeD Γ vs) fun Γ2 => mt Γ2 fun b Γ3 =>
      if b = true then me Γ3 fun r Γ4 => ∃ d, dat r = some d ∧ acc.length < 100000 ∧ compM src mg mt me vs Q xs (acc ++ [d]) (restD Γ Γ4 vs) else compM src mg mt me vs Q xs acc (restD Γ Γ3 vs)
def mComp (mi : DTI) (mg : DTG) (mt : DTT) (me : DTE) (vs : List Nat) : DTE := fun Γ Q => mi Γ fun src items Γ1 => compM src mg mt me vs (fun acc Γ2 => Q (.fr (.lst acc)) Γ2) items [] Γ1
/-- a target stores to the own names alone -/
def OwnG (g : TG) (vs : List Nat) : Prop := ∀ (v : V) (σ : St) (H : Hp) (Q : St → Hp → Prop), g v σ H Q → g v σ H fun σ' H' => L2.wipe σ' vs = L2.wipe σ vs ∧ Q σ' H'
def OwnGs (g : TGs) (vs : List Nat) : Prop := ∀ (v : List V) (σ : St) (H : Hp) (Q : St → Hp → Prop), g v σ H Q → g v σ H fun σ' H' => L2.wipe σ' vs = L2.wipe σ vs ∧ Q σ' H'
theorem wipe_set {σ : St} {x : Option V} : ∀ {vs : List Nat} {i : Nat}, i ∈ vs → L2.wipe (σ.set i x) vs = L2.wipe σ vs
  | [], _, h => absurd h (by simp)
  | v :: vs, i, h => by
    by_cases e : i ∈ vs
    · unfold L2.wipe
      rw [wipe_set e]
    · have : i = v := by
        rcases List.mem_cons.mp h with z | z
        · exact z
        · exact absurd z e
      subst this
      unfold L2.wipe
      have comm : ∀ {ws : List Nat}, i ∉ ws → L2.wipe (σ.set i x) ws = (L2.wipe σ ws).set i x := fun {ws} => by
        induction ws with
        | nil => intro _; rfl
        | cons w ws ih =>
          intro hn
          unfold L2.wipe
          rw [ih fun z => hn (List.mem_cons_of_mem _ z)]
          exact List.set_comm _ _ (fun z => hn (by simp [z]))
      rw [comm e, List.set_set]
theorem own_name {i : Nat} {vs : List Nat} (h : i ∈ vs) : OwnG (gName i) vs := fun v σ H Q q => ⟨wipe_set h, q⟩
theorem own_nil {vs : List Nat} : OwnGs gNil vs := fun v σ H Q q => ⟨q.1, rfl, q.2⟩
theorem own_cons {g : TG} {gs : TGs} {vs : List Nat} (h1 : OwnG g vs) (m1 : ∀ (v : V) (σ : St) (H : Hp) (Q Q' : St → Hp → Prop), (∀ σ H, Q σ H → Q' σ H) → g v σ H Q → g v σ H Q') (m2 : ∀ (v : List V) (σ : St) (H : Hp) (Q Q' : St → Hp → Prop), (∀ σ H, Q σ H → Q' σ H) → gs v σ H Q → gs v σ H Q') (h2 : OwnGs gs vs) : OwnGs (gCons g gs) vs := fun v σ H Q q => by
  obtain ⟨x, r, e, q⟩ := q
  refine ⟨x, r, e, m1 _ _ _ _ _ (fun σ1 H1 q1 => ?_) (h1 _ _ _ _ q)⟩
  obtain ⟨ew, q1⟩ := q1
  exact m2 _ _ _ _ _ (fun σ2 H2 q2 => ⟨q2.1.trans ew, q2.2⟩) (h2 _ _ _ _ q1)
theorem own_tup {K : Fg} {n : Nat} {gs : TGs} {vs : List Nat} (h : OwnGs gs vs) : OwnG (gTup K n gs) vs := fun v σ H Q q => by
  obtain ⟨a, xs, e, h1, h2, q⟩ := q
  exact ⟨a, xs, e, h1, h2, h _ _ _ _ q⟩
theorem mono_name {i : Nat} (v : V) (σ : St) (H : Hp) (Q Q' : St → Hp → Prop) (k : ∀ σ H, Q σ H → Q' σ H) (h : gName i v σ H Q) : gName i v σ H Q' := k _ _ h
theorem mono_nil (v : List V) (σ : St) (H : Hp) (Q Q' : St → Hp → Prop) (k : ∀ σ H, Q σ H → Q' σ H) (h : gNil v σ H Q) : gNil v σ H Q' := ⟨h.1, k _ _ h.2⟩
theorem mono_cons {g : TG} {gs : TGs} (m1 : ∀ (v : V) (σ : St) (H : Hp) (Q Q' : St → Hp → Prop), (∀ σ H, Q σ H → Q' σ H) → g v σ H Q → g v σ H Q') (m2 : ∀ (v : List V) (σ : St) (H : Hp) (Q Q' : St → Hp → Prop), (∀ σ H, Q σ H → Q' σ H) → gs v σ H Q → gs v σ H Q') (v : List V) (σ : St) (H : Hp) (Q Q' : St → Hp → Prop) (k : ∀ σ H, Q σ H → Q' σ H) (h : gCons g gs v σ H Q) : gCons g gs v σ H Q' := by
  obtain ⟨x, r, e, q⟩ := h
  exact ⟨x, r, e, m1 _ _ _ _ _ (fun _ _ q1 => m2 _ _ _ _ _ k q1) q⟩
theorem mono_tup {K : Fg} {n : Nat} {gs : TGs} (m2 : ∀ (v : List V) (σ : St) (H : Hp) (Q Q' : St → Hp → Prop), (∀ σ H, Q σ H → Q' σ H) → gs v σ H Q → gs v σ H Q') (v : V) (σ : St) (H : Hp) (Q Q' : St → Hp → Prop) (k : ∀ σ H, Q σ H → Q' σ H) (h : gTup K n gs v σ H Q) : gTup K n gs v σ H Q' := by
  obtain ⟨a, xs, e, h1, h2, q⟩ := h
  exact ⟨a, xs, e, h1, h2, m2 _ _ _ _ _ k q⟩
section
variable {C : Ctx}
/-- the readable source, at any later heap -/
theorem SrcOk.at {Γ Γ' : Env} {O O' : List Addr} {σ : St} {H H' : Hp} {g : List Addr → Hp → Prop} {src : Src} (h : SrcOk C Γ O σ H g src) (e : Same (hide O H) (hide O' H')) (R : RelO C Γ' O' σ H') (hd : srcD Γ' src) : g O' H' := by
  cases src with
  | no => exact h O' H'
  | val d =>
    obtain ⟨v, h1, h2⟩ := h
    exact h2 O' H' (h1.mono e)
  | v2 a b =>
    obtain ⟨v, w, h1, h1', h2⟩ := h
    exact h2 O' H' (h1.mono e) (h1'.mono e)
  | pl i d =>
    obtain ⟨v, h1, _, h2⟩ := h
    exact h2 O' H' (Pend.b2 (r := .pl i) R h1 hd)
theorem sim_comp {wi : TI} {g : TG} {tt : TT} {te : TE} {vs : List Nat} {mi : DTI} {mg : DTG} {mt : DTT} {me : DTE} (hi : SimI C wi mi) (hg : ∀ U, SimG { C with U := U } g mg) (hgo : OwnG g vs) (ht : ∀ U, SimT { C with U := U } tt mt) (he : ∀ U, SimE { C with U := U } te me)
    (hgm : ∀ (v : V) (σ : St) (H : Hp) (Q Q' : St → Hp → Prop), (∀ σ H, Q σ H → Q' σ H) → g v σ H Q → g v σ H Q') : SimE C (tLc wi g tt te vs) (mComp mi mg mt me vs) := fun Γ O σ H Qd Q R h k => by
  refine hi Γ O σ H _ _ R h fun src items Γ1 J H1 n gg R1 e1 itd sok q => ?_
  intro Dd hD
  have h0 : C.H0 Dd = none := R1.fresh0 hD
  have hDO : Dd ∉ O := R1.notin hD
  have hU : ∀ q ∈ C.U, q.1 ≠ Dd := fun q hq => ne_of_none (R1.uu q hq).1 hD
  have hM1 : ∀ i, ¬ MutAt Γ1 σ i Dd := fun i hm => hDO (R1.mutIn hm)
  -- the invariant
  let Wp : Nat → Nat → Hp → Prop := fun i m Hc => m = n - i ∧ i ≤ n ∧ ∃ (acc : List D) (vacc : List V) (Γi : Env), RelO { C with U := (Dd, .lst vacc) :: C.U } Γi (Dd :: O) σ Hc ∧ Same (hide O H1) (hide (Dd :: O) Hc) ∧ Reps C.K (hide (Dd :: O) Hc) vacc acc ∧
    compM src mg mt me vs (fun acc Γ2 => Qd (.fr (.lst acc)) Γ2) (items.drop i) acc Γi
  refine ⟨Wp, ⟨n, by simp, Nat.zero_le _, [], [], Γ1, ?_, hide_newO hD, .nil, q⟩, ?_⟩
  · refine (R1.allocO hD).congrU fun q hq => ?_
    rcases List.mem_cons.mp hq with z | z
    · subst z; exact ⟨upd_same, List.mem_cons_self, hM1⟩
    · exact (R1.allocO hD).uu q z
  rintro i m Hc ⟨rfl, hin, acc, vacc, Γi, Ri, ei, ri, qi⟩
  have RC : RelO C Γi (Dd :: O) σ Hc := Ri.backU fun q hq => List.mem_cons_of_mem _ hq
  have hDc : Hc Dd = some (.lst vacc) := (Ri.uu _ List.mem_cons_self).1
  have hDm : ∀ i, ¬ MutAt Γi σ i Dd := (Ri.uu _ List.mem_cons_self).2.2
  by_cases hlt : i < n
  · have hil : i < items.length := by rw [itd.len]; exact hlt
    have ed : items.drop i = items[i] :: items.drop (i + 1) := List.drop_eq_getElem_cons hil
    rw [ed] at qi
    obtain ⟨hs, hk, qi⟩ := qi
    have gi : gg (Dd :: O) Hc := sok.at ei RC hs
    refine .inr ⟨itd.go i _ _ gi hlt, fun H' => Wp (i + 1) (n - (i + 1)) H', fun H' w => ⟨n - (i + 1), by omega, w⟩, fun x H' y => ?_⟩
    obtain ⟨d, hd, hx⟩ := itd.yld i _ _ x H' Ri.al gi hlt y
    have hdi : d = items[i] := by
      rw [List.getElem?_eq_getElem hil] at hd
      exact (Option.some.inj hd).symm
    have st : RelO { C with U := (Dd, .lst vacc) :: C.U } Γi (Dd :: O) σ H' ∧ Rep C.K (hide (Dd :: O) H') x d ∧ Same (hide (Dd :: O) Hc) (hide (Dd :: O) H') := by
      rcases hx with ⟨rfl, hx⟩ | ⟨p, pvs, pds, rfl, hp, rfl, hr, rfl⟩
      · exact ⟨Ri, hx, L2.Same.refl _⟩
      · exact ⟨Ri.alloc hp, .tup (by rw [hide_out (Ri.notin hp)]; exact upd_same) (hr.mono (hide_new hp)), hide_new hp⟩
    obtain ⟨R', r', e'⟩ := st
    rw [← hdi] at qi
    refine hgm _ _ _ _ _ (fun σ2 H2 q2 => ?_) (hgo _ _ _ _ (hg _ (wipeD Γi vs) (Dd :: O) (L2.wipe σ vs) H' x d _ (fun σ2 H2 => ∃ Γ2, RelO { C with U := (Dd, .lst vacc) :: C.U } Γ2 (Dd :: O) σ2 H2 ∧ Same (hide (Dd :: O) H') (hide (Dd :: O) H2) ∧ mt Γ2 fun b Γ3 =>
        if b = true then me Γ3 fun r Γ4 => ∃ d, dat r = some d ∧ acc.length < 100000 ∧ compM src mg mt me vs (fun acc Γ2 => Qd (.fr (.lst acc)) Γ2) (items.drop (i + 1)) (acc ++ [d]) (restD Γi Γ4 vs) else compM src mg mt me vs (fun acc Γ2 => Qd (.fr (.lst acc)) Γ2) (items.drop (i + 1)) acc (restD Γi Γ3 vs))
        (R'.wipe hk) r' qi fun Γ2 σ2 H2 R2 e2 q2 => ⟨Γ2, R2, e2, q2⟩))
    obtain ⟨hw, Γ2, R2, e2, q2⟩ := q2
    have idem : ∀ (τ : St) (ws : List Nat), (∀ j ∈ ws, j ∈ vs) → L2.wipe (L2.wipe τ ws) ws = L2.wipe τ ws := by
      intro τ ws _
      induction ws with
      | nil => rfl
      | cons w ws ih =>
        show (L2.wipe ((L2.wipe τ ws).set w none) ws).set w none = (L2.wipe τ ws).set w none
        by_cases hww : w ∈ ws
        · rw [wipe_set hww, ih (fun j hj => by rename_i hsub; exact hsub j (List.mem_cons_of_mem _ hj))]
        · have comm : ∀ {us : List Nat} {τ' : St}, w ∉ us → L2.wipe (τ'.set w none) us = (L2.wipe τ' us).set w none := fun {us τ'} => by
            induction us with
            | nil => intro _; rfl
            | cons u us ih2 =>
              intro hn
              unfold L2.wipe
              rw [ih2 fun z => hn (List.mem_cons_of_mem _ z)]
              exact List.set_comm _ _ (fun z => hn (by simp [z]))
          rw [comm hww, List.set_set, ih (fun j hj => by rename_i hsub; exact hsub j (List.mem_cons_of_mem _ hj))]
    have hw' : L2.wipe σ2 vs = L2.wipe σ vs := hw.trans (idem σ vs fun _ h => h)
    refine ⟨hw', ?_⟩
    · refine ht _ Γ2 (Dd :: O) σ2 H2 _ _ R2 q2 fun b Γ3 H3 R3 e3 q3 => ?_
      have eAll3 := L2.Same.trans ei (L2.Same.trans e' (L2.Same.trans e2 e3))
      cases b with
      | true =>
        refine he _ Γ3 (Dd :: O) σ2 H3 _ _ R3 q3 fun r Γ4 y H4 R4 e4 q4 => ?_
        obtain ⟨dy, hdy, hacc, q4⟩ := q4
        have ry : Rep C.K (hide (Dd :: O) H4) y dy := R4.pend.dat hdy
        have hD4 : H4 Dd = some (.lst vacc) := (R4.rel.uu _ List.mem_cons_self).1
        have e5 : hide (Dd :: O) (upd H4 Dd (.lst (vacc ++ [y]))) = hide (Dd :: O) H4 := hide_mut List.mem_cons_self
        have racc : Reps C.K (hide (Dd :: O) H4) vacc acc := ri.mono (L2.Same.trans e' (L2.Same.trans e2 (L2.Same.trans e3 e4.1)))
        refine ⟨vacc, hD4, by rw [racc.length]; exact Nat.lt_of_lt_of_le hacc (by decide), rfl, hlt, acc ++ [dy], vacc ++ [y], restD Γi Γ4 vs, ?_, ?_, ?_, q4⟩
        · have Rr := R'.rest (L2.Same.trans e2 (L2.Same.trans e3 e4.1)) R4.rel hw' hk
          have RrC : RelO C (restD Γi Γ4 vs) (Dd :: O) σ H4 := Rr.backU fun q hq => List.mem_cons_of_mem _ hq
          have hm4 := (Rr.uu _ List.mem_cons_self).2.2
          have Ru := RrC.updFree (o := .lst (vacc ++ [y])) List.mem_cons_self h0 hm4 hU
          refine Ru.congrU fun q hq => ?_
          rcases List.mem_cons.mp hq with z | z
          · subst z; exact ⟨upd_same, List.mem_cons_self, hm4⟩
          · exact Ru.uu q z
        · rw [e5]; exact L2.Same.trans eAll3 e4.1
        · rw [e5]; exact racc.append (.cons ry .nil)
      | false =>
        refine ⟨rfl, hlt, acc, vacc, restD Γi Γ3 vs, R'.rest (L2.Same.trans e2 e3) R3 hw' hk, eAll3, ri.mono (L2.Same.trans e' (L2.Same.trans e2 e3)), q3⟩
  · have e : i = n := by omega
    subst e
    rw [List.drop_of_length_le (by rw [itd.len]; exact Nat.le_refl _)] at qi
    obtain ⟨hs, qi⟩ := qi
    refine .inl ⟨itd.stop _ _ (sok.at ei RC hs), ?_⟩
    obtain ⟨RO, eO⟩ := RC.letgo (O' := O) h0 hDm hU fun a => ⟨fun ha => ⟨List.mem_cons_of_mem _ ha, fun z => hDO (z ▸ ha)⟩, fun ha => (List.mem_cons.mp ha.1).resolve_left ha.2⟩
    exact k (.fr (.lst acc)) Γi (.ref Dd) Hc ⟨RO, Dd, .lst vacc, rfl, hDc, hDO, h0, .lst ri, RC⟩ (.fr (L2.Same.trans e1 ei)) qi
end
end DL
/-! the data layer, part 7: statements -/
namespace DL
open PySem L2
def mYes : DTT := fun Γ Q => Q true Γ
theorem sim_yes {C : Ctx} : SimT C tYes mYes := fun Γ O σ H Qd Q R h k => k true Γ H R (L2.Same.refl _) h
/-! ### statements -/
structure DEnds where
  nx : Env → Prop
  rt : Res → Env → Prop
  bk : Env → Prop := fun _ => False
  ct : Env → Prop := fun _ => False
abbrev DTS := DEnds → Env → Prop
structure Link (C : Ctx) (D : Ends) (Dd : DEnds) : Prop where
  nx : ∀ Γ O σ H, RelO C Γ O σ H → Dd.nx Γ → D.nx σ H
  rt : ∀ r Γ O σ H v, ROk C Γ O σ H v r → Dd.rt r Γ → D.rt v H
  bk : ∀ Γ O σ H, RelO C Γ O σ H → Dd.bk Γ → D.bk σ H
  ct : ∀ Γ O σ H, RelO C Γ O σ H → Dd.ct Γ → D.ct σ H
def SimS (C : Ctx) (t : TS) (m : DTS) : Prop := ∀ (Γ : Env) (O : List Addr) (σ : St) (H : Hp) (D : Ends) (Dd : DEnds), RelO C Γ O σ H → m Dd Γ → Link C D Dd → t D σ H
structure DS (X : Cx) (C : Ctx) (st : Stmt) (t : TS) (m : DTS) : Prop where
  ps : PS X st t
  sim : SimS C t m
structure DSs (X : Cx) (C : Ctx) (st : List Stmt) (t : TS) (m : DTS) : Prop where
  pss : PSs X st t
  sim : SimS C t m
def mNext : DTS := fun D Γ => D.nx Γ
def mSeqS (m n : DTS) : DTS := fun D Γ => m { D with nx := n D } Γ
def mBrk : DTS := fun D Γ => D.bk Γ
def mCnt : DTS := fun D Γ => D.ct Γ
def mDrop (ma : DTE) : DTS := fun D Γ => ma Γ fun _ Γ1 => D.nx Γ1
def mRet (ma : DTE) : DTS := fun D Γ => ma Γ D.rt
def mRetN : DTS := fun D Γ => D.rt (.val .non) Γ
def mIfS (mt : DTT) (m n : DTS) : DTS := fun D Γ => mt Γ fun b Γ1 => if b = true then m D Γ1 else n D Γ1
/-- name = e, the object shared from now on | owned by the name -/
def mSet (i : Nat) (ma : DTE) : DTS := fun D Γ => ma Γ fun r Γ1 => ∃ d, dat r = some d ∧ freeB Γ1 i = true ∧ D.nx (Γ1.set i (.sh d))
def mSetO (i : Nat) (ma : DTE) : DTS := fun D Γ => ma Γ fun r Γ1 => ∃ d, r = .fr d ∧ freeB Γ1 i = true ∧ D.nx (Γ1.set i (.ow d))
/-- a ghost step: the object of slot i is shared from now on -/
def frzD (Γ : Env) (i : Nat) : Option Env := match Γ[i]? with
  | some (.ow d) => some (Γ.set i (.sh d))
  | some (.sh _) => some Γ
  | _ => none
def mFrz (i : Nat) (m : DTS) : DTS := fun D Γ => ∃ Γ1, frzD Γ i = some Γ1 ∧ m D Γ1
section
variable {X : Cx} {C : Ctx} {st : Stmt} {rest a b : List Stmt} {t u : TS} {m n : DTS} {e c : Expr} {te : TE} {me : DTE} {tc : TT} {mc : DTT} {pos : Pos}
theorem sim_next : SimS C tNext mNext := fun Γ O σ H D Dd R h L => L.nx Γ O σ H R h
theorem sim_seq (h1 : SimS C t m) (h2 : SimS C u n) : SimS C (tSeq t u) (mSeqS m n) := fun Γ O σ H D Dd R h L => h1 Γ O σ H _ _ R h ⟨fun Γ O σ H R h => h2 Γ O σ H _ _ R h L, L.rt, L.bk, L.ct⟩
theorem sim_drop (h1 : SimE C te me) : SimS C (tDrop te) (mDrop me) := fun Γ O σ H D Dd R h L => h1 Γ O σ H _ _ R h fun r Γ1 v H1 R1 e1 q => L.nx Γ1 O σ H1 R1.rel q
theorem sim_ret (h1 : SimE C te me) : SimS C (tRet te) (mRet me) := fun Γ O σ H D Dd R h L => h1 Γ O σ H _ _ R h fun r Γ1 v H1 R1 e1 q => L.rt r Γ1 O σ H1 v R1 q
theorem sim_ifS (hc : SimT C tc mc) (h1 : SimS C t m) (h2 : SimS C u n) : SimS C (tIfS tc t u) (mIfS mc m n) := fun Γ O σ H D Dd R h L => hc Γ O σ H _ _ R h fun b Γ1 H1 R1 e1 q => by
  cases b with
  | true => exact h1 Γ1 O σ H1 D Dd R1 q L
  | false => exact h2 Γ1 O σ H1 D Dd R1 q L
theorem sim_set {i : Nat} (h1 : SimE C te me) : SimS C (tAsg te (gName i)) (mSet i me) := fun Γ O σ H D Dd R h L => h1 Γ O σ H _ _ R h fun r Γ1 v H1 R1 e1 q => by
  obtain ⟨d, hd, hf, q⟩ := q
  exact L.nx _ O _ H1 (R1.rel.setSh (freeB_of hf) (R1.pend.dat hd)) q
theorem sim_setO {i : Nat} (h1 : SimE C te me) : SimS C (tAsg te (gName i)) (mSetO i me) := fun Γ O σ H D Dd R h L => h1 Γ O σ H _ _ R h fun r Γ1 v H1 R1 e1 q => by
  obtain ⟨d, rfl, hf, q⟩ := q
  obtain ⟨R1, p, o, rfl, hp, hpO, h0, ho, R2⟩ := R1
  exact L.nx _ (p :: O) _ H1 (R2.setOw (freeB_of hf) (fun j hj => hpO (R1.mutIn hj)) (fun q hq z => hpO (z ▸ (R1.uu q hq).2.1)) h0 hp ho) q
theorem sim_frz {i : Nat} (h1 : SimS C t m) : SimS C t (mFrz i m) := fun Γ O σ H D Dd R h L => by
  obtain ⟨Γ1, e, q⟩ := h
  unfold frzD at e
  split at e
  · rename_i d hd
    cases e
    obtain ⟨O', R', _⟩ := R.freeze hd
    exact h1 _ O' σ H D Dd R' q L
  · cases e
    exact h1 Γ O σ H D Dd R q L
  · cases e
theorem ds_nil : DSs X C [] tNext mNext := ⟨pss_nil, sim_next⟩
theorem ds_cons (h1 : DS X C st t m) (h2 : DSs X C rest u n) : DSs X C (st :: rest) (tSeq t u) (mSeqS m n) := ⟨pss_cons h1.ps h2.pss, sim_seq h1.sim h2.sim⟩
theorem ds_one (h1 : DS X C st t m) : DSs X C [st] t m := ⟨pss_one h1.ps, h1.sim⟩
theorem ds_expr (h : DE X C e te me) (hs : swapsWith e none pos.line X.env = pure false := by rfl) : DS X C (.Expr e pos) (tDrop te) (mDrop me) := ⟨ps_expr h.pe hs, sim_drop h.sim⟩
theorem ds_ret (h : DE X C e te me) : DS X C (.Return (some e) pos) (tRet te) (mRet me) := ⟨ps_ret h.pe, sim_ret h.sim⟩
theorem ds_if (hc : DT X C c tc mc) (ha : DSs X C a t m) (hb : DSs X C b u n) : DS X C (.If c a b pos) (tIfS tc t u) (mIfS mc m n) := ⟨ps_if hc.pt ha.pss hb.pss, sim_ifS hc.sim ha.sim hb.sim⟩
/-- name = e: h is ps_set (or ps_setLc) of the expression's rule -/
theorem ds_set {i : Nat} (he : DE X C e te me) (h : PE X e te → PS X st (tAsg te (gName i))) : DS X C st (tAsg te (gName i)) (mSet i me) := ⟨h he.pe, sim_set he.sim⟩
theorem ds_setO {i : Nat} (he : DE X C e te me) (h : PE X e te → PS X st (tAsg te (gName i))) : DS X C st (tAsg te (gName i)) (mSetO i me) := ⟨h he.pe, sim_setO he.sim⟩
/-- .. of a comprehension that is stored within its own frame -/
theorem ds_setS {i : Nat} (h : PS X st (tAsg te (gName i))) (hs : SimE C te me) : DS X C st (tAsg te (gName i)) (mSet i me) := ⟨h, sim_set hs⟩
theorem ds_setSO {i : Nat} (h : PS X st (tAsg te (gName i))) (hs : SimE C te me) : DS X C st (tAsg te (gName i)) (mSetO i me) := ⟨h, sim_setO hs⟩
theorem dss_frz (i : Nat) (h : DSs X C a t m) : DSs X C a t (mFrz i m) := ⟨h.pss, sim_frz h.sim⟩
/-- target = e -/
def mAsg (ma : DTE) (mg : DTG) : DTS := fun D Γ => ma Γ fun r Γ1 => ∃ d, dat r = some d ∧ mg d Γ1 D.nx
theorem sim_asg {g : TG} {mg : DTG} (h1 : SimE C te me) (h2 : SimG C g mg) : SimS C (tAsg te g) (mAsg me mg) := fun Γ O σ H D Dd R h L => h1 Γ O σ H _ _ R h fun r Γ1 v H1 R1 e1 q => by
  obtain ⟨d, hd, q⟩ := q
  exact h2 Γ1 O σ H1 v d _ _ R1.rel (R1.pend.dat hd) q fun Γ2 σ2 H2 R2 e2 q2 => L.nx Γ2 O σ2 H2 R2 q2
theorem ds_asg {tg : Expr} {g : TG} {mg : DTG} (he : DE X C e te me) (hg : DG X C tg g mg) (hs : swapsWithSole [tg] e pos.line X.env = pure false := by rfl) (hw : swappedStores [tg] e X.env = pure none := by rfl)
    (h1 : (assignEach [tg] X.env).map (·.2) = [assign tg X.env] := by rfl) : DS X C (.Assign [tg] e pos) (tAsg te g) (mAsg me mg) := ⟨ps_asg he.pe hg.pg hs hw h1, sim_asg he.sim hg.sim⟩
/-- name op= e: ints, texts, and lists that the name owns -/
def mAug (i : Nat) (me : DTE) (f : D → D → (Res → Prop) → Prop) : DTS := fun D Γ => ∃ x, Γ[i]? = some (.sh x) ∧ me Γ fun r Γ1 => ∃ y, rd Γ1 r = some y ∧ f x y fun z => ∃ d, z = .val d ∧ freeB Γ1 i = true ∧ D.nx (Γ1.set i (.sh d))
def addI : D → D → (Res → Prop) → Prop
  | .int i, .int j, Q => Q (.val (.int (i + j)))
  | _, _, _ => False
def subI : D → D → (Res → Prop) → Prop
  | .int i, .int j, Q => Q (.val (.int (i - j)))
  | _, _, _ => False
end
/-! ### for -/
/-- what a source asks at each turn of a loop: a place is a parameter that is only looked at -/
def srcL (Γ : Env) : Src → Prop
  | .pl i d => Γ[i]? = some (.bo d)
  | _ => True
def loopM (src : Src) (mg : DTG) (mb : DTS) (K : DEnds) : List D → Env → Prop
  | [], Γ => srcL Γ src ∧ K.nx Γ
  | x :: xs, Γ => srcL Γ src ∧ mg x Γ fun Γ2 => mb { K with nx := loopM src mg mb K xs, ct := loopM src mg mb K xs, bk := K.nx } Γ2
def mFor (mi : DTI) (mg : DTG) (mb : DTS) : DTS := fun K Γ => mi Γ fun src items Γ1 => loopM src mg mb K items Γ1
section
variable {C : Ctx}
theorem ROk.backT {T : List (V × D)} {Γ : Env} {O : List Addr} {σ : St} {H : Hp} {v : V} {r : Res} (h : ROk { C with T := T } Γ O σ H v r) (hT : ∀ q, q ∈ C.T → q ∈ T) : ROk C Γ O σ H v r := by
  cases r with
  | val d => exact ⟨h.1.backT hT, h.2⟩
  | fr d =>
    obtain ⟨h1, p, o, e, h2, h3, h4, h5, h6⟩ := h
    exact ⟨h1.backT hT, p, o, e, h2, h3, h4, h5, h6.backT hT⟩
  | pl i => exact ⟨h.1.backT hT, h.2⟩
  | np a ds => exact ⟨h.1.backT hT, h.2⟩
theorem sim_for {wi : TI} {g : TG} {tb : TS} {mi : DTI} {mg : DTG} {mb : DTS} (hi : SimI C wi mi) (hg : ∀ T, SimG { C with T := T } g mg) (hb : ∀ T, SimS { C with T := T } tb mb) : SimS C (tFor wi g tb) (mFor mi mg mb) := fun Γ O σ H D Dd R h L => by
  refine hi Γ O σ H _ _ R h fun src items Γ1 J H1 n gg R1 e1 itd sok q => ?_
  -- what is held meanwhile
  have hold : ∃ T, (∀ q, q ∈ C.T → q ∈ T) ∧ RelO { C with T := T } Γ1 O σ H1 ∧ ∀ Γ' O' σ' H', RelO { C with T := T } Γ' O' σ' H' → srcL Γ' src → gg O' H' := by
    cases src with
    | no => exact ⟨C.T, fun _ h => h, R1, fun Γ' O' σ' H' _ _ => sok O' H'⟩
    | val d =>
      obtain ⟨v, h1, h2⟩ := sok
      refine ⟨(v, d) :: C.T, fun _ h => List.mem_cons_of_mem _ h, R1.congrT fun q hq => ?_, fun Γ' O' σ' H' R' _ => h2 O' H' (R'.tt _ List.mem_cons_self)⟩
      rcases List.mem_cons.mp hq with z | z
      · subst z; exact h1
      · exact R1.tt q z
    | v2 a b =>
      obtain ⟨v, w, h1, h1', h2⟩ := sok
      refine ⟨(v, a) :: (w, b) :: C.T, fun _ h => List.mem_cons_of_mem _ (List.mem_cons_of_mem _ h), R1.congrT fun q hq => ?_, fun Γ' O' σ' H' R' _ => h2 O' H' (R'.tt _ List.mem_cons_self) (R'.tt _ (List.mem_cons_of_mem _ List.mem_cons_self))⟩
      rcases List.mem_cons.mp hq with z | z
      · subst z; exact h1
      · rcases List.mem_cons.mp z with z | z
        · subst z; exact h1'
        · exact R1.tt q z
    | pl i d =>
      obtain ⟨v, h1, h2, h3⟩ := sok
      refine ⟨C.T, fun _ h => h, R1, fun Γ' O' σ' H' R' hl => ?_⟩
      have hl : Γ'[i]? = some (.bo d) := hl
      obtain ⟨v', g1, g2, g3⟩ := R'.sl i _ hl
      have hv : v' = v := by
        have b1 := (R1.bb _ g2).1
        rw [h1] at b1
        exact (Option.some.inj (Option.some.inj b1)).symm
      subst hv
      refine h3 O' H' (Pend.b2 (r := .pl i) R' g1 ?_)
      show cont Γ'[i]? = some d
      rw [hl]; rfl
  obtain ⟨T, hT, RT, hgg⟩ := hold
  refine ⟨fun i m σ H => m = n - i ∧ i ≤ n ∧ ∃ Γ O, RelO { C with T := T } Γ O σ H ∧ loopM src mg mb Dd (items.drop i) Γ, ⟨n, by simp, Nat.zero_le _, Γ1, O, RT, q⟩, ?_⟩
  rintro i m σ2 H2 ⟨rfl, hin, Γ2, O2, R2, q2⟩
  by_cases hlt : i < n
  · have hil : i < items.length := by rw [itd.len]; exact hlt
    rw [List.drop_eq_getElem_cons hil] at q2
    obtain ⟨hs, q2⟩ := q2
    have gi := hgg _ _ _ _ R2 hs
    refine .inr ⟨itd.go i _ _ gi hlt, fun σ' H' => ∃ Γ' O', RelO { C with T := T } Γ' O' σ' H' ∧ loopM src mg mb Dd (items.drop (i + 1)) Γ', fun σ' H' ⟨Γ', O', R', q'⟩ => ⟨n - (i + 1), by omega, rfl, hlt, Γ', O', R', q'⟩, fun x H' y => ?_⟩
    obtain ⟨d, hd, hx⟩ := itd.yld i _ _ x H' R2.al gi hlt y
    have hdi : d = items[i] := by
      rw [List.getElem?_eq_getElem hil] at hd
      exact (Option.some.inj hd).symm
    have st : RelO { C with T := T } Γ2 O2 σ2 H' ∧ Rep C.K (hide O2 H') x d := by
      rcases hx with ⟨rfl, hx⟩ | ⟨p, pvs, pds, rfl, hp, rfl, hr, rfl⟩
      · exact ⟨R2, hx⟩
      · exact ⟨R2.alloc hp, .tup (by rw [hide_out (R2.notin hp)]; exact upd_same) (hr.mono (hide_new hp))⟩
    obtain ⟨R', r'⟩ := st
    rw [← hdi] at q2
    refine hg T Γ2 O2 σ2 H' x d _ _ R' r' q2 fun Γ3 σ3 H3 R3 e3 q3 => ?_
    refine hb T Γ3 O2 σ3 H3 _ _ R3 q3 ⟨fun Γ' O' σ' H' R q => ⟨Γ', O', R, q⟩, fun r Γ' O' σ' H' v hr q => L.rt r Γ' O' σ' H' v (hr.backT hT) q, fun Γ' O' σ' H' R q => L.nx Γ' O' σ' H' (R.backT hT) q, fun Γ' O' σ' H' R q => ⟨Γ', O', R, q⟩⟩
  · have e : i = n := by omega
    subst e
    rw [List.drop_of_length_le (by rw [itd.len]; exact Nat.le_refl _)] at q2
    exact .inl ⟨itd.stop _ _ (hgg _ _ _ _ R2 q2.1), L.nx Γ2 O2 σ2 H2 (R2.backT hT) q2.2⟩
/-- while: the invariant by a number that falls -/
def mWhile (mc : DTT) (mb : DTS) : DTS := fun D Γ => ∃ I : Nat → Env → Prop, (∃ n, I n Γ) ∧ ∀ n Γ, I n Γ → mc Γ fun b Γ1 =>
  if b = true then mb { D with nx := fun Γ' => ∃ n', n' < n ∧ I n' Γ', ct := fun Γ' => ∃ n', n' < n ∧ I n' Γ', bk := D.nx } Γ1 else D.nx Γ1
theorem sim_while {tc : TT} {tb : TS} {mc : DTT} {mb : DTS} (hc : SimT C tc mc) (hb : SimS C tb mb) : SimS C (tWhile tc tb) (mWhile mc mb) := fun Γ O σ H D Dd R h L => by
  obtain ⟨I, ⟨n0, i0⟩, turn⟩ := h
  refine ⟨fun n σ H => ∃ Γ O, RelO C Γ O σ H ∧ I n Γ, ⟨n0, Γ, O, R, i0⟩, ?_⟩
  rintro n σ1 H1 ⟨Γ1, O1, R1, i1⟩
  refine hc Γ1 O1 σ1 H1 _ _ R1 (turn n Γ1 i1) fun b Γ2 H2 R2 e2 q2 => ?_
  cases b with
  | true =>
    refine ⟨fun σ' H' => ∃ Γ' O', RelO C Γ' O' σ' H' ∧ ∃ n', n' < n ∧ I n' Γ', fun σ' H' ⟨Γ', O', R', n', hn, hi⟩ => ⟨n', hn, Γ', O', R', hi⟩, ?_⟩
    exact hb Γ2 O1 σ1 H2 _ _ R2 q2 ⟨fun Γ' O' σ' H' R q => ⟨Γ', O', R, q⟩, L.rt, fun Γ' O' σ' H' R q => L.nx Γ' O' σ' H' R q, fun Γ' O' σ' H' R q => ⟨Γ', O', R, q⟩⟩
  | false => exact L.nx Γ2 O1 σ1 H2 R2 q2
end
section
variable {X : Cx} {C : Ctx} {tg iter c : Expr} {body : List Stmt} {wi : TI} {g : TG} {tb : TS} {mi : DTI} {mg : DTG} {mb : DTS} {pos : Pos} {tc : TT} {mc : DTT}
theorem ds_for (hp : PassesOwn (model X.prog X.w) X.A X.env X.xe) (hc : X.calm = true) (hi : DI X C tg iter wi mi) (hg : ∀ T, DG X { C with T := T } tg g mg) (hb : ∀ T, DSs X { C with T := T } body tb mb) (hs : ∀ x, foldedSetIterable iter X.env x = pure x := by intro _; rfl) : DS X C (.For tg iter body [] pos) (tFor wi g tb) (mFor mi mg mb) :=
  ⟨ps_for hp hc hi.pi (hg C.T).pg (hb C.T).pss hs, sim_for hi.sim (fun T => (hg T).sim) fun T => (hb T).sim⟩
theorem ds_while (hp : PassesOwn (model X.prog X.w) X.A X.env X.xe) (hc : DT X C c tc mc) (hb : DSs X C body tb mb) : DS X C (.While c body [] pos) (tWhile tc tb) (mWhile mc mb) := ⟨ps_while hp hc.pt hb.pss, sim_while hc.sim hb.sim⟩
end
end DL
/-! the data layer, part 8: what a def promises over data; calls -/
namespace DL
open PySem L2
/-- how a parameter is taken: shared; only looked at; changed in place -/
inductive Md where
  | S
  | B
  | M
  deriving DecidableEq
def mA : Md → V → List Addr
  | .M, .ref a => [a]
  | _, _ => []
def mAddrs : List Md → List V → List Addr
  | [], _ => []
  | _ :: _, [] => []
  | m :: ms, v :: vs => mA m v ++ mAddrs ms vs
inductive ArgsOk (K : Fg) (O : List Addr) (H : Hp) (Ms : List Addr) : List Md → List V → List D → Prop
  | nil : ArgsOk K O H Ms [] [] []
  | S {v : V} {d : D} {ms : List Md} {vs : List V} {ds : List D} : Rep K (hide O H) v d → ArgsOk K O H Ms ms vs ds → ArgsOk K O H Ms (.S :: ms) (v :: vs) (d :: ds)
  | B {v : V} {d : D} {ms : List Md} {vs : List V} {ds : List D} : (Rep K (hide O H) v d ∨ ∃ l o, v = .ref l ∧ H l = some o ∧ l ∉ Ms ∧ OwnOk K (hide O H) o d) → ArgsOk K O H Ms ms vs ds → ArgsOk K O H Ms (.B :: ms) (v :: vs) (d :: ds)
  | M {l : Addr} {o : HO} {d : D} {ms : List Md} {vs : List V} {ds : List D} : l ∈ O → H l = some o → OwnOk K (hide O H) o d → ArgsOk K O H Ms ms vs ds → ArgsOk K O H Ms (.M :: ms) (.ref l :: vs) (d :: ds)
inductive MsOk (K : Fg) (O : List Addr) (H : Hp) : List Md → List V → List D → Prop
  | nil : MsOk K O H [] [] []
  | S {v : V} {ms : List Md} {vs : List V} {ds : List D} : MsOk K O H ms vs ds → MsOk K O H (.S :: ms) (v :: vs) ds
  | B {v : V} {ms : List Md} {vs : List V} {ds : List D} : MsOk K O H ms vs ds → MsOk K O H (.B :: ms) (v :: vs) ds
  | M {l : Addr} {o : HO} {d : D} {ms : List Md} {vs : List V} {ds : List D} : H l = some o → OwnOk K (hide O H) o d → MsOk K O H ms vs ds → MsOk K O H (.M :: ms) (.ref l :: vs) (d :: ds)
structure PostOk (K : Fg) (O : List Addr) (H : Hp) (ms : List Md) (vs : List V) (H' : Hp) (O' : List Addr) : Prop where
  sub : ∀ a ∈ O, a ∈ O'
  new : ∀ a ∈ O', a ∈ O ∨ H a = none
  al : ∀ a ∈ O', Tk (H' a)
  fr : ∀ a o, H a = some o → a ∉ mAddrs ms vs → H' a = some o
/-- what a def promises: the arguments, what is wanted of the answer (is it a new object; the datum; what the changed parameters hold), of an error (its class, its fields) -/
abbrev EdT := Str → List (Str × D) → List D → Prop
/-- the dict of an exception that a callee lets out -/
def XdOk (K : Fg) (H H' : Hp) (d : Option Addr) (fds : List (Str × D)) : Prop := (d = none ∧ fds = []) ∨ ∃ dx fvs, d = some dx ∧ H dx = none ∧ H' dx = some (.xd fvs) ∧ fvs.map (·.1) = fds.map (·.1) ∧ Reps K (fun _ => none) (fvs.map (·.2)) (fds.map (·.2))
abbrev DSp := List D → (Bool → D → List D → Prop) → EdT → Prop
def ResOk (K : Fg) (H : Hp) (H' : Hp) (O' : List Addr) (v : V) : Bool → D → Prop
  | true, d => (∃ p o, v = .ref p ∧ p ∈ O' ∧ H p = none ∧ H' p = some o ∧ OwnOk K (hide O' H') o d) ∨ ∃ a ds p l v0 vs, d = .tup [a, .lst ds] ∧ v = .ref p ∧ H' p = some (.tup [v0, .ref l]) ∧ p ∉ O' ∧ l ∉ O' ∧ H' l = some (.lst vs) ∧ H l = none ∧ Rep K (hide O' H') v0 a ∧ Reps K (hide O' H') vs ds
  | false, d => Rep K (hide O' H') v d
def spD (K : Fg) (ms : List Md) (sd : DSp) : Sp := fun vs H Q E => ∃ (O : List Addr) (ds : List D) (Qd : Bool → D → List D → Prop) (Ed : EdT), ArgsOk K O H (mAddrs ms vs) ms vs ds ∧ (∀ a ∈ O, Tk (H a)) ∧ (mAddrs ms vs).Nodup ∧ sd ds Qd Ed ∧
  (∀ v H' O' b d ds', PostOk K O H ms vs H' O' → MsOk K O' H' ms vs ds' → ResOk K H H' O' v b d → Qd b d ds' → Q v H') ∧
  (∀ n c d H' O' fds ds', PostOk K O H ms vs H' O' → MsOk K O' H' ms vs ds' → XNm K n c → XdOk K H H' d fds → Ed n fds ds' → E (.ref c) d H')
theorem ArgsOk.len {K : Fg} {O : List Addr} {H : Hp} {Ms : List Addr} : ∀ {ms : List Md} {vs : List V} {ds : List D}, ArgsOk K O H Ms ms vs ds → vs.length = ms.length ∧ ds.length = ms.length
  | _, _, _, .nil => ⟨rfl, rfl⟩
  | _, _, _, .S _ t => ⟨by rw [List.length_cons, List.length_cons, t.len.1], by rw [List.length_cons, List.length_cons, t.len.2]⟩
  | _, _, _, .B _ t => ⟨by rw [List.length_cons, List.length_cons, t.len.1], by rw [List.length_cons, List.length_cons, t.len.2]⟩
  | _, _, _, .M _ _ _ t => ⟨by rw [List.length_cons, List.length_cons, t.len.1], by rw [List.length_cons, List.length_cons, t.len.2]⟩
/-! ### the callee's side -/
def sl0 : Md → D → Sl
  | .S, d => .sh d
  | .B, d => .bo d
  | .M, d => .io d
def env0 : List Md → List D → Env
  | [], _ => []
  | _ :: _, [] => []
  | m :: ms, d :: ds => sl0 m d :: env0 ms ds
def io1 : Md → Option Sl → List D
  | .M, some (.io d) => [d]
  | _, _ => []
def iosD : List Md → Env → List D
  | [], _ => []
  | m :: ms, Γ => io1 m Γ.head? ++ iosD ms Γ.tail
def mListA : Nat → List Md → List V → List (Nat × Addr)
  | _, [], _ => []
  | _, _ :: _, [] => []
  | i, m :: ms, v :: vs => (mA m v).map (fun a => (i, a)) ++ mListA (i + 1) ms vs
def bL (i : Nat) : Md → V → List (Nat × V)
  | .B, v => [(i, v)]
  | _, _ => []
def bListA : Nat → List Md → List V → List (Nat × V)
  | _, [], _ => []
  | _, _ :: _, [] => []
  | i, m :: ms, v :: vs => bL i m v ++ bListA (i + 1) ms vs
theorem mListA_addr : ∀ (ms : List Md) (vs : List V) (i j : Nat) (a : Addr), (j, a) ∈ mListA i ms vs → a ∈ mAddrs ms vs
  | [], _, _, _, _, h => by cases h
  | _ :: _, [], _, _, _, h => by cases h
  | m :: ms, v :: vs, i, j, a, h => by
    unfold mListA at h
    unfold mAddrs
    rcases List.mem_append.mp h with h | h
    · obtain ⟨b, hb, e⟩ := List.mem_map.mp h
      cases e
      exact List.mem_append_left _ hb
    · exact List.mem_append_right _ (mListA_addr ms vs (i + 1) j a h)
/-- slot by slot, at an entry -/
theorem args_at {K : Fg} {O : List Addr} {H : Hp} {Ms : List Addr} {ms : List Md} {vs : List V} {ds : List D} (A : ArgsOk K O H Ms ms vs ds) : ∀ (i k : Nat) (s : Sl), (env0 ms ds)[i]? = some s → ∃ v, vs[i]? = some v ∧
    ((∃ d, s = .sh d ∧ Rep K (hide O H) v d) ∨ (∃ d, s = .bo d ∧ (k + i, v) ∈ bListA k ms vs ∧ (Rep K (hide O H) v d ∨ ∃ l o, v = .ref l ∧ H l = some o ∧ l ∉ Ms ∧ OwnOk K (hide O H) o d)) ∨ ∃ d l o, s = .io d ∧ v = .ref l ∧ (k + i, l) ∈ mListA k ms vs ∧ l ∈ O ∧ H l = some o ∧ OwnOk K (hide O H) o d) := by
  induction A with
  | nil => intro i k s h; cases h
  | S hr t ih =>
    intro i k s h
    cases i with
    | zero => cases h; exact ⟨_, rfl, .inl ⟨_, rfl, hr⟩⟩
    | succ i =>
      obtain ⟨w, e, q⟩ := ih i (k + 1) s h
      refine ⟨w, e, ?_⟩
      have ek : k + (i + 1) = k + 1 + i := by omega
      rw [ek]
      rcases q with q | ⟨d, e1, q1, q2⟩ | ⟨d, l, o, e1, e2, q1, q2⟩
      · exact .inl q
      · exact .inr (.inl ⟨d, e1, List.mem_append_right _ q1, q2⟩)
      · exact .inr (.inr ⟨d, l, o, e1, e2, List.mem_append_right _ q1, q2⟩)
  | B hr t ih =>
    intro i k s h
    cases i with
    | zero => cases h; exact ⟨_, rfl, .inr (.inl ⟨_, rfl, List.mem_append_left _ (List.mem_singleton.mpr rfl), hr⟩)⟩
    | succ i =>
      obtain ⟨w, e, q⟩ := ih i (k + 1) s h
      refine ⟨w, e, ?_⟩
      have ek : k + (i + 1) = k + 1 + i := by omega
      rw [ek]
      rcases q with q | ⟨d, e1, q1, q2⟩ | ⟨d, l, o, e1, e2, q1, q2⟩
      · exact .inl q
      · exact .inr (.inl ⟨d, e1, List.mem_append_right _ q1, q2⟩)
      · exact .inr (.inr ⟨d, l, o, e1, e2, List.mem_append_right _ q1, q2⟩)
  | M h1 h2 h3 t ih =>
    intro i k s h
    cases i with
    | zero => cases h; exact ⟨_, rfl, .inr (.inr ⟨_, _, _, rfl, rfl, List.mem_append_left _ (List.mem_singleton.mpr rfl), h1, h2, h3⟩)⟩
    | succ i =>
      obtain ⟨w, e, q⟩ := ih i (k + 1) s h
      refine ⟨w, e, ?_⟩
      have ek : k + (i + 1) = k + 1 + i := by omega
      rw [ek]
      rcases q with q | ⟨d, e1, q1, q2⟩ | ⟨d, l, o, e1, e2, q1, q2⟩
      · exact .inl q
      · exact .inr (.inl ⟨d, e1, List.mem_append_right _ q1, q2⟩)
      · exact .inr (.inr ⟨d, l, o, e1, e2, List.mem_append_right _ q1, q2⟩)
theorem mA_S {v : V} : mA .S v = [] := by cases v <;> rfl
theorem mA_B {v : V} : mA .B v = [] := by cases v <;> rfl
theorem mList_at {K : Fg} {O : List Addr} {H : Hp} {Ms : List Addr} {ms : List Md} {vs : List V} {ds : List D} (A : ArgsOk K O H Ms ms vs ds) : ∀ (k : Nat) (q : Nat × Addr), q ∈ mListA k ms vs → ∃ i, q.1 = k + i ∧ vs[i]? = some (.ref q.2) ∧ ∃ d, (env0 ms ds)[i]? = some (.io d) := by
  induction A with
  | nil => intro k q h; cases h
  | S hr t ih =>
    intro k q h
    unfold mListA at h
    rw [mA_S] at h
    obtain ⟨i, e, e1, d, e2⟩ := ih (k + 1) q h
    exact ⟨i + 1, by omega, e1, d, e2⟩
  | B hr t ih =>
    intro k q h
    unfold mListA at h
    rw [mA_B] at h
    obtain ⟨i, e, e1, d, e2⟩ := ih (k + 1) q h
    exact ⟨i + 1, by omega, e1, d, e2⟩
  | M h1 h2 h3 t ih =>
    intro k q h
    unfold mListA at h
    rcases List.mem_append.mp h with h | h
    · have e : q = (k, _) := List.mem_singleton.mp h
      subst e
      exact ⟨0, rfl, rfl, _, rfl⟩
    · obtain ⟨i, e, e1, d, e2⟩ := ih (k + 1) q h
      exact ⟨i + 1, by omega, e1, d, e2⟩
theorem bList_at {K : Fg} {O : List Addr} {H : Hp} {Ms : List Addr} {ms : List Md} {vs : List V} {ds : List D} (A : ArgsOk K O H Ms ms vs ds) : ∀ (k : Nat) (q : Nat × V), q ∈ bListA k ms vs → ∃ i, q.1 = k + i ∧ vs[i]? = some q.2 ∧ ∃ d, (env0 ms ds)[i]? = some (.bo d) := by
  induction A with
  | nil => intro k q h; cases h
  | S hr t ih =>
    intro k q h
    obtain ⟨i, e, e1, d, e2⟩ := ih (k + 1) q h
    exact ⟨i + 1, by omega, e1, d, e2⟩
  | B hr t ih =>
    intro k q h
    unfold bListA at h
    rcases List.mem_append.mp h with h | h
    · have e : q = (k, _) := List.mem_singleton.mp h
      subst e
      exact ⟨0, rfl, rfl, _, rfl⟩
    · obtain ⟨i, e, e1, d, e2⟩ := ih (k + 1) q h
      exact ⟨i + 1, by omega, e1, d, e2⟩
  | M h1 h2 h3 t ih =>
    intro k q h
    obtain ⟨i, e, e1, d, e2⟩ := ih (k + 1) q h
    exact ⟨i + 1, by omega, e1, d, e2⟩
theorem mNodup : ∀ (ms : List Md) (vs : List V) (k i j : Nat) (a : Addr), (mAddrs ms vs).Nodup → (i, a) ∈ mListA k ms vs → (j, a) ∈ mListA k ms vs → i = j
  | [], _, _, _, _, _, _, h, _ => by cases h
  | _ :: _, [], _, _, _, _, _, h, _ => by cases h
  | m :: ms, v :: vs, k, i, j, a, n, h1, h2 => by
    unfold mAddrs at n
    obtain ⟨_, n2, n3⟩ := List.nodup_append.mp n
    unfold mListA at h1 h2
    have hd : ∀ {i : Nat}, (i, a) ∈ (mA m v).map (fun a => (k, a)) → i = k ∧ a ∈ mA m v := fun {i} h => by
      obtain ⟨b, hb, e⟩ := List.mem_map.mp h
      cases e
      exact ⟨rfl, hb⟩
    rcases List.mem_append.mp h1 with h1 | h1
    · rcases List.mem_append.mp h2 with h2 | h2
      · rw [(hd h1).1, (hd h2).1]
      · exact absurd rfl (n3 a (hd h1).2 a (mListA_addr _ _ _ _ _ h2))
    · rcases List.mem_append.mp h2 with h2 | h2
      · exact absurd rfl (n3 a (hd h2).2 a (mListA_addr _ _ _ _ _ h1))
      · exact mNodup ms vs (k + 1) i j a n2 h1 h2
def ctx0 (K : Fg) (O : List Addr) (H : Hp) (ms : List Md) (vs : List V) : Ctx := ⟨K, H, O, mListA 0 ms vs, bListA 0 ms vs, [], [], []⟩
def startD (N : List Str) (ms : List Md) (ds : List D) : Env := env0 ms ds ++ List.replicate (N.length - ds.length) .no
theorem env0_len {K : Fg} {O : List Addr} {H : Hp} {Ms : List Addr} {ms : List Md} {vs : List V} {ds : List D} (A : ArgsOk K O H Ms ms vs ds) : (env0 ms ds).length = ds.length := by
  induction A with
  | nil => rfl
  | S _ _ ih => unfold env0; rw [List.length_cons, List.length_cons, ih]
  | B _ _ ih => unfold env0; rw [List.length_cons, List.length_cons, ih]
  | M _ _ _ _ ih => unfold env0; rw [List.length_cons, List.length_cons, ih]
theorem relO_start {K : Fg} {O : List Addr} {H : Hp} {ms : List Md} {vs : List V} {ds : List D} {N : List Str} (A : ArgsOk K O H (mAddrs ms vs) ms vs ds) (al : ∀ a ∈ O, Tk (H a)) (nd : (mAddrs ms vs).Nodup) : RelO (ctx0 K O H ms vs) (startD N ms ds) O (L2.start N vs) H := by
  have el := env0_len A
  have vl := A.len
  have atG : ∀ {i : Nat} {s : Sl}, (startD N ms ds)[i]? = some s → s = .no ∨ (env0 ms ds)[i]? = some s := fun {i s} h => by
    unfold startD at h
    by_cases hi : i < (env0 ms ds).length
    · rw [List.getElem?_append_left hi] at h; exact .inr h
    · rw [List.getElem?_append_right (by omega), List.getElem?_replicate] at h
      split at h
      · cases h; exact .inl rfl
      · cases h
  have atS : ∀ {i : Nat} {v : V}, vs[i]? = some v → (L2.start N vs)[i]? = some (some v) := fun {i v} h => by
    have hi := (List.getElem?_eq_some_iff.mp h).1
    unfold L2.start
    rw [List.getElem?_append_left (by simpa using hi), List.getElem?_map, h]; rfl
  have inG : ∀ {i : Nat} {s : Sl}, (env0 ms ds)[i]? = some s → (startD N ms ds)[i]? = some s := fun {i s} h => by
    have hi := (List.getElem?_eq_some_iff.mp h).1
    unfold startD
    rw [List.getElem?_append_left hi]; exact h
  have mutA : ∀ {i : Nat} {a : Addr}, MutAt (startD N ms ds) (L2.start N vs) i a → (i, a) ∈ mListA 0 ms vs := fun {i a} hh => by
    rcases hh with ⟨⟨d, h⟩, h2⟩ | ⟨b, P, o, h, _⟩
    rotate_left
    · rcases atG h with z | z
      · cases z
      · obtain ⟨v, _, q⟩ := args_at A _ 0 _ z
        rcases q with ⟨_, q, _⟩ | ⟨_, q, _⟩ | ⟨_, _, _, q, _⟩ <;> cases q
    have h' : (startD N ms ds)[i]? = some (.io d) := by
      rcases h with h | h
      · rcases atG h with z | z
        · cases z
        · obtain ⟨v, _, q⟩ := args_at A _ 0 _ z
          rcases q with ⟨_, q, _⟩ | ⟨_, q, _⟩ | ⟨_, _, _, q, _⟩ <;> cases q
      · exact h
    rcases atG h' with z | z
    · cases z
    · obtain ⟨v, hv, q⟩ := args_at A _ 0 _ z
      rcases q with ⟨_, q, _⟩ | ⟨_, q, _⟩ | ⟨_, l, _, _, e, q, _⟩
      · cases q
      · cases q
      · subst e
        rw [atS hv] at h2
        cases h2
        simpa using q
  refine ⟨fun i s h => ?_, fun i j a n h1 h2 => n (mNodup _ _ 0 _ _ _ nd (mutA h1) (mutA h2)), fun a o h _ => h, fun q hq => ?_, fun q hq => ?_, fun a h => h, al, fun a h => .inl h, fun a h => (al a h).ne, fun q hq => absurd hq (by simp [ctx0]), fun q hq => absurd hq (by simp [ctx0]), ?_⟩
  · rcases atG h with z | z
    · subst z; trivial
    · obtain ⟨v, hv, q⟩ := args_at A _ 0 _ z
      rcases q with ⟨d, e, q⟩ | ⟨d, e, q1, q⟩ | ⟨d, l, o, e, e2, q1, q2, q3, q4⟩
      · subst e; exact ⟨v, atS hv, q⟩
      · subst e
        refine ⟨v, atS hv, by rw [Nat.zero_add] at q1; exact q1, ?_⟩
        rcases q with q | ⟨l, o, e3, q3, q4, q5⟩
        · exact .inl q
        · exact .inr ⟨l, o, e3, q3, fun p hp z => q4 (z ▸ mListA_addr _ _ 0 p.1 _ hp), q5⟩
      · subst e e2; exact ⟨l, o, atS hv, by rw [Nat.zero_add] at q1; exact q1, q2, q3, q4⟩
  · obtain ⟨i, e, e1, d, e2⟩ := mList_at A 0 q (show q ∈ mListA 0 ms vs from hq)
    rw [show q.1 = i by omega]
    exact .inl ⟨atS e1, d, inG e2⟩
  · obtain ⟨i, e, e1, d, e2⟩ := bList_at A 0 q (show q ∈ bListA 0 ms vs from hq)
    rw [show q.1 = i by omega]
    exact ⟨atS e1, d, inG e2⟩
  · unfold startD L2.start
    rw [List.length_append, List.length_append, List.length_replicate, List.length_replicate, List.length_map, el, vl.1, vl.2]
/-- what the changed parameters hold at the end -/
theorem ms_end {K : Fg} {O O' : List Addr} {H H' : Hp} {Ms : List Addr} {ms : List Md} {vs : List V} {ds : List D} (A : ArgsOk K O H Ms ms vs ds) : ∀ (Γ : Env) (k : Nat),
    (∀ i l, (k + i, l) ∈ mListA k ms vs → ∃ d o, Γ[i]? = some (.io d) ∧ H' l = some o ∧ OwnOk K (hide O' H') o d) → MsOk K O' H' ms vs (iosD ms Γ) := by
  induction A with
  | nil => intro Γ k _; exact .nil
  | S hr t ih =>
    intro Γ k h
    unfold iosD
    refine .S (ih Γ.tail (k + 1) fun i l hm => ?_)
    obtain ⟨d, o, e, q⟩ := h (i + 1) l (by rw [show k + (i + 1) = k + 1 + i by omega]; exact List.mem_append_right _ hm)
    exact ⟨d, o, by rw [List.getElem?_tail]; exact e, q⟩
  | B hr t ih =>
    intro Γ k h
    unfold iosD
    refine .B (ih Γ.tail (k + 1) fun i l hm => ?_)
    obtain ⟨d, o, e, q⟩ := h (i + 1) l (by rw [show k + (i + 1) = k + 1 + i by omega]; exact List.mem_append_right _ hm)
    exact ⟨d, o, by rw [List.getElem?_tail]; exact e, q⟩
  | M h1 h2 h3 t ih =>
    intro Γ k h
    obtain ⟨d, o, e, q1, q2⟩ := h 0 _ (List.mem_append_left _ (List.mem_singleton.mpr rfl))
    unfold iosD
    rw [List.head?_eq_getElem?, e]
    refine .M q1 q2 (ih Γ.tail (k + 1) fun i l hm => ?_)
    obtain ⟨d, o, e, q⟩ := h (i + 1) l (by rw [show k + (i + 1) = k + 1 + i by omega]; exact List.mem_append_right _ hm)
    exact ⟨d, o, by rw [List.getElem?_tail]; exact e, q⟩
/-- the ends of a def's body over data -/
def endsD (ms : List Md) (Qd : Bool → D → List D → Prop) : DEnds where
  nx := fun Γ => Qd false .non (iosD ms Γ)
  rt := fun r Γ => match r with
    | .val d => Qd false d (iosD ms Γ)
    | .fr d => Qd true d (iosD ms Γ)
    | .pl i => ∃ d, Γ[i]? = some (.ow d) ∧ Qd true d (iosD ms Γ)
    | .np a ds => Qd true (.tup [a, .lst ds]) (iosD ms Γ)
theorem post_of {K : Fg} {O O' : List Addr} {H H' : Hp} {ms : List Md} {vs : List V} {ds : List D} {Γ : Env} {σ : St} (A : ArgsOk K O H (mAddrs ms vs) ms vs ds) (R : RelO (ctx0 K O H ms vs) Γ O' σ H') : PostOk K O H ms vs H' O' ∧ MsOk K O' H' ms vs (iosD ms Γ) := by
  refine ⟨⟨R.oo, R.ol, R.al, fun a o h n => R.fr a o h fun p hp z => n (by rw [← z]; exact mListA_addr _ _ 0 p.1 _ hp)⟩, ms_end A Γ 0 fun i l hm => ?_⟩
  rw [Nat.zero_add] at hm
  obtain ⟨h1, d, h2⟩ : σ[i]? = some (some (.ref l)) ∧ ∃ d, Γ[i]? = some (.io d) := by
    rcases R.mm (i, l) hm with z | ⟨z, _⟩
    · exact z
    · exact absurd z (by simp [ctx0])
  obtain ⟨l', o, h3, _, _, h4, h5⟩ := R.sl i _ h2
  rw [show σ[i]? = some (some (.ref l)) from h1] at h3
  cases h3
  exact ⟨d, o, h2, h4, h5⟩
end DL
/-! the data layer, part 9: defs and their calls -/
namespace DL
open PySem PySem.Spec PyProof.Rows L2
/-- a def keeps its promise wherever nothing is being shown (no repr is under way) -/
structure FnG (P : Program) (w : World) (K : Fg) (mg : Str → Option Value) (base : Heap) (k : Nat) (f : Addr) (fd : FuncData) (ps : List Str) (sp : Sp) : Prop where
  len : ∀ vs H Q E, sp vs H Q E → vs.length = ps.length
  go : ∀ (A : Around), A.guards = some [] → Room k A → ∀ (outer : List PySem.Env) (s : Shared) (H : Hp) (args : Args) (us : List Value) (vs : List V) (Q : VK) (E : XK),
    Env0 P w K mg base A outer s H → BindsTo s fd args (ps.zip us) → Vals vs us → sp vs H Q E → codeAny (model P w) A (.call (.ref f) args) (CR (L2.CX P w) outer P w H s Q E) s
section
variable {P : Program} {w : World} {K : Fg} {mg : Str → Option Value} {base : Heap} {k : Nat} {f : Addr} {fd : FuncData} {ps : List Str} {sp : Sp}
theorem FnG.mono {j : Nat} (F : FnG P w K mg base j f fd ps sp) (h : j ≤ k) : FnG P w K mg base k f fd ps sp := ⟨F.len, fun A g hr => F.go A g (hr.mono h)⟩
/-- a def of the text, by its body -/
theorem fn_g {x qual : Str} {st : Stmt} {N : List Str} (F : Fun K x qual st f fd) (S : FnScope N ps (defScope st)) (len : ∀ vs H Q E, sp vs H Q E → vs.length = ps.length)
    (body : ∀ (cdv : Value) (A : Around) (outer : List PySem.Env) (s : Shared) (H : Hp) (vs : List V) (Q : VK) (E : XK), (A.deeper (envOfC qual (defScope st) s.heap.objs.size f cdv)).guards = some [] → Room k (A.deeper (envOfC qual (defScope st) s.heap.objs.size f cdv)) → sp vs H Q E →
      ∃ t, PSs (cxOf (L2.CX P w) P w K mg base N qual (defScope st) f cdv A outer s H E) (defBody st) t ∧ t { nx := fun _ H' => Q .non H', rt := Q } (L2.start N vs) H) : FnG P w K mg base (k + 1) f fd ps sp := by
  obtain ⟨oc, od, kV, doc, pm, an, cdv, ct, osl, rfl, lk, hcd⟩ := F.ex
  refine ⟨len, fun A hg hr outer s H args us vs Q E e0 hb r hsp => ?_⟩
  have hl := len _ _ _ _ hsp
  have stay : ∀ b o, base.get? b = some o → s.heap.get? b = some o := fun b o e => (e0.bs b o e).1
  have KX : K.In s.heap := e0.mod.kin.keeps stay
  have kinds : ∀ y ∈ ps.zip us, (defScope st).names.lookup y.1 = some .local ∨ ((defScope st).names.lookup y.1 = some .cell ∧ ((cellsFrom (s.heap.objs.size + 1) (defScope st).names []).lookup y.1).isSome = true) := by
    rintro ⟨n, v⟩ hy
    rcases S.par n (List.of_mem_zip hy).1 with q | q
    · exact Or.inl q
    · exact Or.inr ⟨q, PySem.W.cellsFrom_some _ _ _ (Or.inl q)⟩
  refine codeAny_call_function hr.depth (KX _ _ lk) rfl S.co S.gen rfl (PySem.W.codeRec_of KX hcd) (hb _ _ _ _ (wpAny_newFunctionEnv_cells S.kind kinds ?_))
  intro env he s1 x
  subst he
  refine ⟨(e0.mod.nolimit.keeps stay).keeps x.toInCall.keep, codeAny_func ?_⟩
  obtain ⟨t, ht, hq⟩ := body cdv A outer s H vs Q E hg (hr.deeper _) hsp
  refine wpAny_mono (ht.run [] s1 _ H _ (inv_start S hr.hd e0 hl r x) hq) ?_ fun _ _ h => h
  intro fl s' hs
  cases fl with
  | ret u =>
    obtain ⟨v, σ', H', J, rv, q⟩ := hs
    exact ⟨v, H', J.os, J.bare, J.base, J.hok, rv, q⟩
  | next =>
    obtain ⟨σ', H', J, q⟩ := hs
    exact ⟨V.non, H', J.os, J.bare, J.base, J.hok, rfl, q⟩
  | brk => exact hs.elim fun _ h => h.elim fun _ h => h.2.elim
  | cont => exact hs.elim fun _ h => h.elim fun _ h => h.2.elim
end
/-! ### a def over data -/
section
variable {P : Program} {w : World} {K : Fg} {mg : Str → Option Value} {base : Heap} {k : Nat} {f : Addr} {fd : FuncData} {ps : List Str}
theorem spD_len {ms : List Md} {sd : DSp} (hl : ms.length = ps.length) : ∀ vs H Q E, spD K ms sd vs H Q E → vs.length = ps.length := fun vs H Q E ⟨O, ds, Qd, Ed, A, _⟩ => by rw [A.len.1, hl]
/-- the link at a def's end -/
theorem link_end {ms : List Md} {vs : List V} {ds : List D} {O : List Addr} {H : Hp} {Q : VK} {Qd : Bool → D → List D → Prop} (A : ArgsOk K O H (mAddrs ms vs) ms vs ds)
    (k : ∀ v H' O' b d ds', PostOk K O H ms vs H' O' → MsOk K O' H' ms vs ds' → ResOk K H H' O' v b d → Qd b d ds' → Q v H') : Link (ctx0 K O H ms vs) { nx := fun _ H' => Q .non H', rt := Q } (endsD ms Qd) where
  nx := fun Γ O' σ H' R h => by
    obtain ⟨p, m⟩ := post_of A R
    exact k .non H' O' false .non _ p m .non h
  rt := fun r Γ O' σ H' v hr h => by
    cases r with
    | val d =>
      obtain ⟨p, m⟩ := post_of A hr.1
      exact k v H' O' false d _ p m hr.2 h
    | fr d =>
      obtain ⟨_, q, o, rfl, h2, h3, h4, h5, R⟩ := hr
      obtain ⟨p, m⟩ := post_of A R
      exact k _ H' (q :: O') true d _ p m (.inl ⟨q, o, rfl, List.mem_cons_self, h4, h2, h5⟩) h
    | np a ds =>
      obtain ⟨R, q, l, v0, vs, rfl, h2, h3, h4, h5, h6, h7, h8⟩ := hr
      obtain ⟨p, m⟩ := post_of A R
      exact k _ H' O' true _ _ p m (.inr ⟨a, ds, q, l, v0, vs, rfl, rfl, h2, h3, h4, h5, h6, h7, h8⟩) h
    | pl i =>
      obtain ⟨d, hd, h⟩ := h
      obtain ⟨p, m⟩ := post_of A hr.1
      obtain ⟨l, o, h1, h2, h3, h4, h5⟩ := hr.1.sl i _ hd
      have e : σ[i]? = some (some v) := hr.2
      rw [h1] at e
      cases e
      exact k _ H' O' true d _ p m (.inl ⟨l, o, rfl, h2, h3, h4, h5⟩) h
  bk := fun _ _ _ _ _ h => h.elim
  ct := fun _ _ _ _ _ h => h.elim
/-- THE RULE for a def that lets no exception out -/
theorem fn_d {x qual : Str} {st : Stmt} {N : List Str} {ms : List Md} {sd : DSp} (F : Fun K x qual st f fd) (S : FnScope N ps (defScope st)) (hl : ms.length = ps.length)
    (body : ∀ (cdv : Value) (A : Around) (outer : List PySem.Env) (s : Shared) (H0 : Hp) (vs : List V) (E : XK) (O : List Addr) (H : Hp), (A.deeper (envOfC qual (defScope st) s.heap.objs.size f cdv)).guards = some [] → Room k (A.deeper (envOfC qual (defScope st) s.heap.objs.size f cdv)) →
      ∃ t m, DSs (cxOf (L2.CX P w) P w K mg base N qual (defScope st) f cdv A outer s H0 E).nox (ctx0 K O H ms vs) (defBody st) t m ∧ ∀ ds Qd Ed, ds.length = ms.length → sd ds Qd Ed → m (endsD ms Qd) (startD N ms ds)) : FnG P w K mg base (k + 1) f fd ps (spD K ms sd) :=
  fn_g F S (spD_len hl) fun cdv A outer s H vs Q E hg hr hsp => by
    obtain ⟨O, ds, Qd, Ed, AO, al, nd, hsd, post, _⟩ := hsp
    obtain ⟨t, m, d, hm⟩ := body cdv A outer s H vs E O H hg hr
    exact ⟨t, d.pss.nox, d.sim _ _ _ _ _ _ (relO_start AO al nd) (hm ds Qd Ed AO.len.2 hsd) (link_end AO post)⟩
end
/-! ### a call -/
section
variable {X : Cx} {k : Nat} {f : Addr} {fd : FuncData} {ps : List Str} {sp : Sp} {dvs : List V} {ds : List Value} {x : Str} {p pos : Pos} {e : Expr} {es : List Expr} {t : TA} {E : XK}
theorem run_g {pins : List (Addr × Obj)} {σ : L2.St} {H : Hp} {s : Shared} {Q : VK} {us : List Value} {vs : List V} (F : FnG X.prog X.w X.K X.mg X.base k f fd ps sp) (hg : X.A.guards = some []) (hr : Room k X.A) (hb : Binds X.K fd ps ds) (hd : Vals dvs ds) (hx : Passes (L2.CX X.prog X.w) X E)
    (I : Inv X pins σ H s) (r : Vals vs us) (h : sp (vs ++ dvs) H Q E) : wpAny (model X.prog X.w) X.A (call (.ref f) us) (EP X pins σ Q) X.xe s := by
  have r2 : Vals (vs ++ dvs) (us ++ ds) := r.append hd
  refine wpAny_call (codeAny_mono (F.go X.A hg hr X.stack s H ⟨us, []⟩ (us ++ ds) (vs ++ dvs) Q E I.env0 (hb s us I.kIn (by rw [← r2.length]; exact F.len _ _ _ _ h)) r2 h) ?_)
  intro r s' hq
  match r, hq with
  | .error e, hq => exact hx pins σ H s e s' I hq
  | .ok (.ret u), hq => exact I.after hq
  | .ok .next, hq => exact False.elim hq
  | .ok .brk, hq => exact False.elim hq
  | .ok .cont, hq => exact False.elim hq
theorem pe_g (F : FnG X.prog X.w X.K X.mg X.base k f fd ps sp) (hg : X.A.guards = some []) (hr : Room k X.A) (hgl : Gl X x) (hm : X.mg x = some (.ref f)) (hk : PySem.W.keepIn X.K (.ref f) = true) (hb : Binds X.K fd ps ds) (hd : Vals dvs ds) (hx : Passes (L2.CX X.prog X.w) X E)
    (ha : PA X (e :: es) t) (hdb : (x == ("__debug__" : Str)) = false := by decide) (he : starEach (e :: es) X.env = (false, eval e X.env) :: starEach es X.env := by rfl) (hpl : (backTo pos (starEach es X.env)).any (·.1) = false := by rfl) : PE X (.Call (.Name x p) (e :: es) [] pos) (tCall sp dvs E t) :=
  ⟨fun pins s σ H Q I h => wpAny_Call_Name_kw (ld_glob I hgl hm (PySem.W.callWith_K (h₀ := X.base) I.ok.mod.kin hk (thn (ha.run pos pins s σ H _ I h) fun us s1 ⟨vs, H1, I1, r, q⟩ => ⟨I1.kIn, run_g F hg hr hb hd hx I1 r q⟩) he hpl) hdb)⟩
end
/-- the arguments over data -/
def arg1 (Γ : Env) : Md → Res → Option D
  | .S, r => dat r
  | .B, r => rd Γ r
  | .M, .pl i => match Γ[i]? with
    | some (.ow d) => some d
    | some (.io d) => some d
    | _ => none
  | .M, _ => none
def argsD (Γ : Env) : List Md → List Res → Option (List D)
  | [], [] => some []
  | m :: ms, r :: rs => match arg1 Γ m r, argsD Γ ms rs with
    | some d, some ds => some (d :: ds)
    | _, _ => none
  | _, _ => none
def mPl1 : Md → Res → List Nat
  | .M, .pl i => [i]
  | _, _ => []
def mPls : List Md → List Res → List Nat
  | m :: ms, r :: rs => mPl1 m r ++ mPls ms rs
  | _, _ => []
def bPl1 : Md → Res → List Nat
  | .B, .pl i => [i]
  | _, _ => []
def bPls : List Md → List Res → List Nat
  | m :: ms, r :: rs => bPl1 m r ++ bPls ms rs
  | _, _ => []
def apartB (ms : List Md) (rs : List Res) : Bool := decide (mPls ms rs).Nodup && (bPls ms rs).all fun i => decide (i ∉ mPls ms rs)
/-- the changed places hold what the callee left there -/
def putsD : List Nat → List D → Env → Option Env
  | [], [], Γ => some Γ
  | i :: is, d :: ds, Γ => match setC Γ i d with
    | some Γ1 => putsD is ds Γ1
    | none => none
  | _, _, _ => none
def noX : EdT := fun _ _ _ => False
/-- a new object; or a pair with a new list -/
def frOf : D → Res
  | .tup [a, .lst ds] => .np a ds
  | d => .fr d
def mCall (ms : List Md) (sd : DSp) (ma : DTA) : DTE := fun Γ Q => ma Γ fun rs Γ1 => ∃ ds, argsD Γ1 ms rs = some ds ∧ apartB ms rs = true ∧
  sd ds (fun b d ds' => ∃ Γ2, putsD (mPls ms rs) ds' Γ1 = some Γ2 ∧ Q (if b = true then frOf d else .val d) Γ2) noX
section
variable {C : Ctx} {Γ : Env} {O O' : List Addr} {σ : L2.St} {H H' : Hp}
/-- fewer owned addresses -/
theorem RelO.shrink (R : RelO C Γ O' σ H) (hs : ∀ a ∈ O, a ∈ O') (hm : ∀ i a, MutAt Γ σ i a → a ∈ O) (hu : ∀ q ∈ C.U, q.1 ∈ O) (h0 : ∀ a ∈ C.O0, a ∈ O) : RelO C Γ O σ H ∧ Same (hide O' H) (hide O H) := by
  have e : Same (hide O' H) (hide O H) := hide_sub hs
  refine ⟨⟨fun i s es => ?_, R.ds, R.fr, R.mm, R.bb, h0, fun a ha => R.al a (hs a ha), fun a ha => R.ol a (hs a ha), R.o0, fun q hq => (R.tt q hq).mono e, fun q hq => ⟨(R.uu q hq).1, hu q hq, (R.uu q hq).2.2⟩, R.len⟩, e⟩
  have q := R.sl i s es
  cases s with
  | no => trivial
  | sh d => obtain ⟨v, h1, h2⟩ := q; exact ⟨v, h1, h2.mono e⟩
  | ow d => obtain ⟨l, u, h1, h2, h3, h4, h5⟩ := q; exact ⟨l, u, h1, hm i l (.inl ⟨⟨d, .inl es⟩, h1⟩), h3, h4, h5.mono e⟩
  | io d => obtain ⟨l, u, h1, h2, h3, h4, h5⟩ := q; exact ⟨l, u, h1, h2, hm i l (.inl ⟨⟨d, .inr es⟩, h1⟩), h4, h5.mono e⟩
  | bo d =>
    obtain ⟨v, h1, h2, h3⟩ := q
    refine ⟨v, h1, h2, ?_⟩
    rcases h3 with h3 | ⟨l, u, h3, h4, h5, h6⟩
    · exact .inl (h3.mono e)
    · exact .inr ⟨l, u, h3, h4, h5, h6.mono e⟩
  | pn b P => exact ⟨q.1, fun c hc => ⟨hm i c.1 (.inr ⟨b, P, c.2, es, hc⟩), (q.2.1 c hc).2⟩, fun t ht => (q.2.2 t ht).mono e⟩
/-- the places that a call changes: slot and address -/
inductive Chg (σ : L2.St) : List Nat → List Addr → Prop
  | nil : Chg σ [] []
  | cons {i : Nat} {a : Addr} {is : List Nat} {as : List Addr} : σ[i]? = some (some (.ref a)) → Chg σ is as → Chg σ (i :: is) (a :: as)
inductive Now (K : Fg) (O : List Addr) (H : Hp) : List Addr → List D → Prop
  | nil : Now K O H [] []
  | cons {a : Addr} {o : HO} {d : D} {as : List Addr} {ds : List D} : H a = some o → OwnOk K (hide O H) o d → Now K O H as ds → Now K O H (a :: as) (d :: ds)
theorem Chg.at : ∀ {is : List Nat} {as : List Addr} {a : Addr}, Chg σ is as → a ∈ as → ∃ i ∈ is, σ[i]? = some (some (.ref a))
  | _, _, _, .nil, h => absurd h (by simp)
  | _, _, _, .cons e t, h => by
    rcases List.mem_cons.mp h with z | z
    · subst z; exact ⟨_, List.mem_cons_self, e⟩
    · obtain ⟨i, hi, q⟩ := t.at z
      exact ⟨i, List.mem_cons_of_mem _ hi, q⟩
/-- kinds of slots stay -/
theorem setC_kind {Γ' : Env} {i : Nat} {d : D} (h : setC Γ i d = some Γ') : (∃ d0, (Γ[i]? = some (.ow d0) ∧ Γ' = Γ.set i (.ow d)) ∨ (Γ[i]? = some (.io d0) ∧ Γ' = Γ.set i (.io d))) := by
  unfold setC at h
  split at h
  · rename_i d0 e; cases h; exact ⟨d0, .inl ⟨e, rfl⟩⟩
  · rename_i d0 e; cases h; exact ⟨d0, .inr ⟨e, rfl⟩⟩
  · cases h
/-- behind a call: the named slots hold the new data, at the new heap with new owned addresses -/
structure Aft (C : Ctx) (Γ : Env) (O : List Addr) (σ : L2.St) (H : Hp) (as : List Addr) (O' : List Addr) (H' : Hp) : Prop where
  sub : ∀ a ∈ O, a ∈ O'
  new : ∀ a ∈ O', a ∈ O ∨ H a = none
  al : ∀ a ∈ O', Tk (H' a)
  fr : ∀ a o, H a = some o → a ∉ as → H' a = some o
theorem aft_same {as : List Addr} (Af : Aft C Γ O σ H as O' H') (ha : ∀ a ∈ as, a ∈ O) : Same (hide O H) (hide O' H') := fun b u e => by
  obtain ⟨n, e⟩ := hide_some e
  have hb : b ∉ O' := fun z => by
    rcases Af.new b z with q | q
    · exact n q
    · rw [q] at e; cases e
  rw [hide_out hb]
  exact Af.fr b u e fun z => n (ha b z)
theorem setC_len {Γ' : Env} {i : Nat} {d : D} (h : setC Γ i d = some Γ') : Γ'.length = Γ.length := by
  obtain ⟨d0, ⟨_, e⟩ | ⟨_, e⟩⟩ := setC_kind h <;> rw [e, List.length_set]
/-- what putsD does, slot by slot -/
theorem putsD_at : ∀ {is : List Nat} {ds : List D} {Γ Γ' : Env}, putsD is ds Γ = some Γ' → is.Nodup → Γ'.length = Γ.length ∧ (∀ j, j ∉ is → Γ'[j]? = Γ[j]?) ∧
    ∀ (as : List Addr), as.length = is.length → ∀ (R : Nat → Addr → D → Prop), (∀ (n i : Nat) (a : Addr) (d : D), is[n]? = some i → as[n]? = some a → ds[n]? = some d → R i a d) → ∀ (n i : Nat) (a : Addr), is[n]? = some i → as[n]? = some a → ∃ d d0, R i a d ∧ ((Γ[i]? = some (.ow d0) ∧ Γ'[i]? = some (.ow d)) ∨ (Γ[i]? = some (.io d0) ∧ Γ'[i]? = some (.io d)))
  | [], [], Γ, Γ', h, _ => by
    cases h
    exact ⟨rfl, fun _ _ => rfl, fun as hl R hR n i a h1 => by cases h1⟩
  | [], _ :: _, _, _, h, _ => by cases h
  | _ :: _, [], _, _, h, _ => by cases h
  | i :: is, d :: ds, Γ, Γ', h, nd => by
    unfold putsD at h
    split at h
    · rename_i Γ1 e1
      obtain ⟨n1, n2⟩ := List.nodup_cons.mp nd
      obtain ⟨l1, l2, l3⟩ := putsD_at h n2
      have hil : i < Γ.length := by
        obtain ⟨d0, ⟨e, _⟩ | ⟨e, _⟩⟩ := setC_kind e1 <;> exact (List.getElem?_eq_some_iff.mp e).1
      refine ⟨by rw [l1, setC_len e1], fun j hj => ?_, fun as hl R hR n j a h1 h2 => ?_⟩
      · rw [l2 j fun z => hj (List.mem_cons_of_mem _ z)]
        have hne : i ≠ j := fun z => hj (by simp [z])
        obtain ⟨d0, ⟨_, e⟩ | ⟨_, e⟩⟩ := setC_kind e1 <;> rw [e, get_set_ne hne]
      · cases as with
        | nil => cases h2
        | cons a' as =>
          cases n with
          | zero =>
            cases h1; cases h2
            refine ⟨d, ?_⟩
            obtain ⟨d0, ⟨e, e'⟩ | ⟨e, e'⟩⟩ := setC_kind e1
            · exact ⟨d0, hR 0 _ _ _ rfl rfl rfl, .inl ⟨e, by rw [l2 i n1, e']; exact List.getElem?_set_self hil⟩⟩
            · exact ⟨d0, hR 0 _ _ _ rfl rfl rfl, .inr ⟨e, by rw [l2 i n1, e']; exact List.getElem?_set_self hil⟩⟩
          | succ n =>
            obtain ⟨d2, d0, r, q⟩ := l3 as (by simpa using hl) R (fun n i a d h1 h2 h3 => hR (n + 1) i a d h1 h2 h3) n j a h1 h2
            have hne : i ≠ j := fun z => n1 (by rw [z]; exact List.mem_of_getElem? h1)
            refine ⟨d2, d0, r, ?_⟩
            have e1' : Γ1[j]? = Γ[j]? := by
              obtain ⟨d0, ⟨_, e⟩ | ⟨_, e⟩⟩ := setC_kind e1 <;> rw [e, get_set_ne hne]
            rw [e1'] at q
            exact q
    · cases h
theorem Chg.len : ∀ {is : List Nat} {as : List Addr}, Chg σ is as → as.length = is.length
  | _, _, .nil => rfl
  | _, _, .cons _ t => by rw [List.length_cons, List.length_cons, t.len]
theorem Chg.get : ∀ {is : List Nat} {as : List Addr} {n i : Nat} {a : Addr}, Chg σ is as → is[n]? = some i → as[n]? = some a → σ[i]? = some (some (.ref a))
  | _, _, _, _, _, .nil, h, _ => by cases h
  | _, _, 0, _, _, .cons e t, h1, h2 => by cases h1; cases h2; exact e
  | _, _, n + 1, _, _, .cons e t, h1, h2 => t.get (n := n) h1 h2
theorem Now.get {K : Fg} : ∀ {as : List Addr} {ds : List D} {n : Nat} {a : Addr} {d : D}, Now K O H as ds → as[n]? = some a → ds[n]? = some d → ∃ o, H a = some o ∧ OwnOk K (hide O H) o d
  | _, _, _, _, _, .nil, h, _ => by cases h
  | _, _, 0, _, _, .cons e q t, h1, h2 => by cases h1; cases h2; exact ⟨_, e, q⟩
  | _, _, n + 1, _, _, .cons e q t, h1, h2 => t.get (n := n) h1 h2
theorem rel_after {Γ' : Env} {is : List Nat} {as : List Addr} {ds : List D} (R : RelO C Γ O σ H) (hc : Chg σ is as) (nd : is.Nodup) (hmu : ∀ i ∈ is, ∃ d, Γ[i]? = some (.ow d) ∨ Γ[i]? = some (.io d)) (hp : putsD is ds Γ = some Γ') (Af : Aft C Γ O σ H as O' H') (hn : Now C.K O' H' as ds) :
    RelO C Γ' O' σ H' ∧ Same (hide O H) (hide O' H') := by
  obtain ⟨l1, l2, l3⟩ := putsD_at hp nd
  have mutI : ∀ i ∈ is, ∀ a, σ[i]? = some (some (.ref a)) → MutAt Γ σ i a := fun i hi a e => .inl ⟨hmu i hi, e⟩
  have asM : ∀ a ∈ as, ∃ i ∈ is, MutAt Γ σ i a := fun a ha => by
    obtain ⟨i, hi, e⟩ := hc.at ha
    exact ⟨i, hi, mutI i hi a e⟩
  have asO : ∀ a ∈ as, a ∈ O := fun a ha => by
    obtain ⟨i, _, m⟩ := asM a ha
    exact R.mutIn m
  have e := aft_same Af asO
  have sp := l3 as hc.len (fun i a d => ∃ o, H' a = some o ∧ OwnOk C.K (hide O' H') o d) fun n i a d h1 h2 h3 => hn.get h2 h3
  have inIs : ∀ j ∈ is, ∃ n a, is[n]? = some j ∧ as[n]? = some a ∧ σ[j]? = some (some (.ref a)) := fun j hj => by
    obtain ⟨n, hn', e⟩ := List.mem_iff_getElem.mp hj
    have hla : n < as.length := by rw [hc.len]; exact hn'
    have h1 : is[n]? = some j := by rw [List.getElem?_eq_getElem hn', e]
    have h2 : as[n]? = some as[n] := List.getElem?_eq_getElem hla
    exact ⟨n, as[n], h1, h2, hc.get h1 h2⟩
  have kind : ∀ j a, MutAt Γ' σ j a → MutAt Γ σ j a := fun j a hh => by
    by_cases hj : j ∈ is
    · rcases hh with ⟨_, h2⟩ | ⟨b, P, o, h, _⟩
      · exact mutI j hj a h2
      · obtain ⟨n, a', g1, g2, g3⟩ := inIs _ hj
        obtain ⟨d', d0, _, ⟨q3, q4⟩ | ⟨q3, q4⟩⟩ := sp n _ a' g1 g2 <;> rw [q4] at h <;> cases h
    · unfold MutAt at hh ⊢
      rwa [l2 j hj] at hh
  have notAs : ∀ j a, j ∉ is → MutAt Γ σ j a → a ∉ as := fun j a hj m z => by
    obtain ⟨i, hi, m2⟩ := asM a z
    exact R.ds i j a (fun z => hj (z ▸ hi)) m2 m
  refine ⟨⟨fun j s h => ?_, fun i j a n h1 h2 => R.ds i j a n (kind _ _ h1) (kind _ _ h2), fun a o h n => ?_, fun q hq => ?_, fun q hq => ?_, fun a ha => Af.sub a (R.oo a ha), Af.al, fun a ha => ?_, R.o0, fun q hq => (R.tt q hq).mono e, fun q hq => ⟨?_, Af.sub _ (R.uu q hq).2.1, fun i hi => (R.uu q hq).2.2 i (kind _ _ hi)⟩, by rw [l1]; exact R.len⟩, e⟩
  · by_cases hj : j ∈ is
    · obtain ⟨n, a, h1, h2, h3⟩ := inIs j hj
      obtain ⟨d, d0, ⟨o, q1, q2⟩, ⟨q3, q4⟩ | ⟨q3, q4⟩⟩ := sp n j a h1 h2
      · rw [q4] at h; cases h
        obtain ⟨l, o', g1, g2, g3, _⟩ := R.sl j _ q3
        rw [h3] at g1; cases g1
        exact ⟨a, o, h3, Af.sub _ g2, g3, q1, q2⟩
      · rw [q4] at h; cases h
        obtain ⟨l, o', g1, g2, g3, _⟩ := R.sl j _ q3
        rw [h3] at g1; cases g1
        exact ⟨a, o, h3, g2, Af.sub _ g3, q1, q2⟩
    · rw [l2 j hj] at h
      have q := R.sl j s h
      cases s with
      | no => trivial
      | sh d => obtain ⟨v, h1, h2⟩ := q; exact ⟨v, h1, h2.mono e⟩
      | ow d => obtain ⟨l, u, h1, h2, h3, h4, h5⟩ := q; exact ⟨l, u, h1, Af.sub _ h2, h3, Af.fr _ _ h4 (notAs j l hj (.inl ⟨⟨d, .inl h⟩, h1⟩)), h5.mono e⟩
      | io d => obtain ⟨l, u, h1, h2, h3, h4, h5⟩ := q; exact ⟨l, u, h1, h2, Af.sub _ h3, Af.fr _ _ h4 (notAs j l hj (.inl ⟨⟨d, .inr h⟩, h1⟩)), h5.mono e⟩
      | bo d =>
        obtain ⟨v, h1, h2, h3⟩ := q
        refine ⟨v, h1, h2, ?_⟩
        rcases h3 with h3 | ⟨l, u, h3, h4, h5, h6⟩
        · exact .inl (h3.mono e)
        · exact .inr ⟨l, u, h3, h4, h5, h6.mono e⟩
      | pn b P => exact ⟨q.1, fun c hc => ⟨Af.sub _ (q.2.1 c hc).1, Af.fr _ _ (q.2.1 c hc).2.1 (notAs j c.1 hj (.inr ⟨b, P, c.2, h, hc⟩)), (q.2.1 c hc).2.2⟩, fun t ht => (q.2.2 t ht).mono e⟩
  · refine Af.fr a o (R.fr a o h n) fun z => ?_
    obtain ⟨i, hi, ⟨⟨d, m | m⟩, m2⟩ | ⟨b, P, oo, m, _⟩⟩ := asM a z
    · obtain ⟨l, o', g1, g2, g3, _⟩ := R.sl i _ m
      rw [m2] at g1; cases g1
      rw [h] at g3; cases g3
    · obtain ⟨l, o', g1, g2, _⟩ := R.sl i _ m
      rw [m2] at g1; cases g1
      exact n _ g2 rfl
    · obtain ⟨d', h | h⟩ := hmu _ hi <;> rw [m] at h <;> cases h
  · rcases R.mm q hq with ⟨h1, d, h2⟩ | ⟨h0, h1, P, h2⟩
    · refine .inl ⟨h1, ?_⟩
      by_cases hj : q.1 ∈ is
      · obtain ⟨n, a, g1, g2, g3⟩ := inIs _ hj
        obtain ⟨d', d0, _, ⟨q3, q4⟩ | ⟨q3, q4⟩⟩ := sp n _ a g1 g2
        · rw [h2] at q3; cases q3
        · exact ⟨d', q4⟩
      · exact ⟨d, by rw [l2 _ hj]; exact h2⟩
    · have hj : q.1 ∉ is := fun hj => by
        obtain ⟨d', h | h⟩ := hmu _ hj <;> rw [h2] at h <;> cases h
      exact .inr ⟨h0, h1, P, by rw [l2 _ hj]; exact h2⟩
  · obtain ⟨h1, d, h2⟩ := R.bb q hq
    refine ⟨h1, d, ?_⟩
    by_cases hj : q.1 ∈ is
    · obtain ⟨d', h | h⟩ := hmu _ hj <;> rw [h2] at h <;> cases h
    · rw [l2 _ hj]; exact h2
  · rcases Af.new a ha with z | z
    · exact R.ol a z
    · exact .inr (R.fresh0 z)
  · refine Af.fr _ _ (R.uu q hq).1 fun z => ?_
    obtain ⟨i, hi, m⟩ := asM _ z
    exact (R.uu q hq).2.2 i m
end
end DL
/-! the data layer, part 10: a call over data; the end of a law -/
namespace DL
open PySem PySem.Spec PyProof.Rows L2
section
variable {C : Ctx} {Γ : Env} {O O' : List Addr} {σ : L2.St} {H H' : Hp}
theorem chg_of (R : RelO C Γ O σ H) : ∀ {ms : List Md} {rs : List Res} {vs : List V} {ds : List D}, Pends C.K O σ H vs rs → argsD Γ ms rs = some ds → Chg σ (mPls ms rs) (mAddrs ms vs) ∧ ∀ i ∈ mPls ms rs, ∃ d, Γ[i]? = some (.ow d) ∨ Γ[i]? = some (.io d)
  | [], [], _, _, .nil, _ => ⟨.nil, fun _ h => absurd h (by simp [mPls])⟩
  | [], _ :: _, _, _, .cons _ _, h => by cases h
  | _ :: _, [], _, _, .nil, h => by cases h
  | m :: ms, r :: rs, _, ds, .cons (v := v) (vs := vs) hp ht, h => by
    unfold argsD at h
    split at h
    · rename_i d ds' e1 e2
      cases h
      obtain ⟨c, k⟩ := chg_of R ht e2
      cases m with
      | S =>
        unfold mPls mAddrs
        rw [mA_S]
        cases r <;> exact ⟨c, k⟩
      | B =>
        unfold mPls mAddrs
        rw [mA_B]
        cases r <;> exact ⟨c, k⟩
      | M =>
        cases r with
        | val d => cases e1
        | fr d => cases e1
        | np a ds => cases e1
        | pl i =>
          have hp : σ[i]? = some (some v) := hp
          have e1 : (match Γ[i]? with | some (.ow d) => some d | some (.io d) => some d | _ => none) = some d := e1
          have km : ∃ d, Γ[i]? = some (.ow d) ∨ Γ[i]? = some (.io d) := by
            split at e1
            · rename_i d' q; exact ⟨d', .inl q⟩
            · rename_i d' q; exact ⟨d', .inr q⟩
            · cases e1
          obtain ⟨d', q⟩ := km
          have hv : ∃ a, v = .ref a := by
            rcases q with q | q
            · obtain ⟨l, o, g, _⟩ := R.sl i _ q
              rw [hp] at g; cases g; exact ⟨l, rfl⟩
            · obtain ⟨l, o, g, _⟩ := R.sl i _ q
              rw [hp] at g; cases g; exact ⟨l, rfl⟩
          obtain ⟨a, rfl⟩ := hv
          refine ⟨.cons hp c, fun j hj => ?_⟩
          have hj : j ∈ i :: mPls ms rs := hj
          rcases List.mem_cons.mp hj with z | z
          · subst z; exact ⟨d', q⟩
          · exact k j z
    · cases h
theorem args_of (R : RelO C Γ O σ H) {P : List Nat} {Ms : List Addr} (hc : Chg σ P Ms) (hmu : ∀ i ∈ P, ∃ d, Γ[i]? = some (.ow d) ∨ Γ[i]? = some (.io d)) : ∀ {ms : List Md} {rs : List Res} {vs : List V} {ds : List D}, Pends C.K O σ H vs rs → argsD Γ ms rs = some ds → (∀ i ∈ bPls ms rs, i ∉ P) → ArgsOk C.K O H Ms ms vs ds
  | [], [], _, _, .nil, h, _ => by cases h; exact .nil
  | [], _ :: _, _, _, .cons _ _, h, _ => by cases h
  | _ :: _, [], _, _, .nil, h, _ => by cases h
  | m :: ms, r :: rs, _, ds, .cons (v := v) (vs := vs) hp ht, h, hb => by
    unfold argsD at h
    split at h
    · rename_i d ds' e1 e2
      cases h
      have t := args_of R hc hmu ht e2 fun i hi => hb i (List.mem_append_right _ hi)
      cases m with
      | S => exact .S (hp.dat e1) t
      | B =>
        refine .B ?_ t
        cases r with
        | val d' => cases e1; exact .inl hp
        | fr d' => cases e1; exact .inl hp
        | np a ds => cases e1; exact .inl hp
        | pl i =>
          have hp : σ[i]? = some (some v) := hp
          have e1 : cont Γ[i]? = some d := e1
          have hi : i ∉ P := hb i (List.mem_append_left _ (List.mem_singleton.mpr rfl))
          cases q : Γ[i]? with
          | none => rw [q] at e1; cases e1
          | some s =>
            rw [q] at e1
            have k := R.sl i s q
            cases s with
            | no => cases e1
            | sh d' => cases e1
            | ow d' =>
              cases e1
              obtain ⟨l, o, h1, h2, h3, h4, h5⟩ := k
              rw [hp] at h1; cases h1
              refine .inr ⟨l, o, rfl, h4, fun z => ?_, h5⟩
              obtain ⟨j, hj, e⟩ := hc.at z
              exact R.ds i j l (fun z => hi (z ▸ hj)) (.inl ⟨⟨_, .inl q⟩, hp⟩) (.inl ⟨hmu j hj, e⟩)
            | io d' =>
              cases e1
              obtain ⟨l, o, h1, h2, h3, h4, h5⟩ := k
              rw [hp] at h1; cases h1
              refine .inr ⟨l, o, rfl, h4, fun z => ?_, h5⟩
              obtain ⟨j, hj, e⟩ := hc.at z
              exact R.ds i j l (fun z => hi (z ▸ hj)) (.inl ⟨⟨_, .inr q⟩, hp⟩) (.inl ⟨hmu j hj, e⟩)
            | bo d' =>
              cases e1
              obtain ⟨v', h1, h2, h3⟩ := k
              rw [hp] at h1; cases h1
              rcases h3 with h3 | ⟨l, o, h3, h4, h5, h6⟩
              · exact .inl h3
              · refine .inr ⟨l, o, h3, R.fr l o h4 h5, fun z => ?_, h6⟩
                obtain ⟨j, hj, e⟩ := hc.at z
                obtain ⟨dj, g | g⟩ := hmu j hj
                · obtain ⟨l2, o2, g1, g2, g3, _⟩ := R.sl j _ g
                  rw [e] at g1; cases g1
                  rw [h4] at g3; cases g3
                · obtain ⟨l2, o2, g1, g2, _⟩ := R.sl j _ g
                  rw [e] at g1; cases g1
                  exact h5 _ g2 rfl
            | pn b P => cases e1
      | M =>
        cases r with
        | val d => cases e1
        | fr d => cases e1
        | np a ds => cases e1
        | pl i =>
          have hp : σ[i]? = some (some v) := hp
          have e1 : (match Γ[i]? with | some (.ow d) => some d | some (.io d) => some d | _ => none) = some d := e1
          split at e1
          · rename_i d' q
            cases e1
            obtain ⟨l, o, h1, h2, h3, h4, h5⟩ := R.sl i _ q
            rw [hp] at h1; cases h1
            exact .M h2 h4 h5 t
          · rename_i d' q
            cases e1
            obtain ⟨l, o, h1, h2, h3, h4, h5⟩ := R.sl i _ q
            rw [hp] at h1; cases h1
            exact .M h3 h4 h5 t
          · cases e1
    · cases h
theorem chg_nodup (R : RelO C Γ O σ H) : ∀ {is : List Nat} {as : List Addr}, Chg σ is as → (∀ i ∈ is, ∃ d, Γ[i]? = some (.ow d) ∨ Γ[i]? = some (.io d)) → is.Nodup → as.Nodup
  | _, _, .nil, _, _ => List.nodup_nil
  | _, _, .cons (i := i) (a := a) e t, hmu, nd => by
    obtain ⟨n1, n2⟩ := List.nodup_cons.mp nd
    refine List.nodup_cons.mpr ⟨fun z => ?_, chg_nodup R t (fun i hi => hmu i (List.mem_cons_of_mem _ hi)) n2⟩
    obtain ⟨j, hj, ej⟩ := t.at z
    exact R.ds i j a (fun z => n1 (z ▸ hj)) (.inl ⟨hmu i List.mem_cons_self, e⟩) (.inl ⟨hmu j (List.mem_cons_of_mem _ hj), ej⟩)
theorem now_of {K : Fg} {ms : List Md} {vs : List V} {ds : List D} (h : MsOk K O H ms vs ds) : Now K O H (mAddrs ms vs) ds := by
  induction h with
  | nil => exact .nil
  | S _ ih => unfold mAddrs; rw [mA_S]; exact ih
  | B _ ih => unfold mAddrs; rw [mA_B]; exact ih
  | M h1 h2 _ ih => exact .cons h1 h2 ih
theorem mutAt_put {Γ' : Env} {is : List Nat} {ds : List D} (hp : putsD is ds Γ = some Γ') (nd : is.Nodup) (hmu : ∀ i ∈ is, ∃ d, Γ[i]? = some (.ow d) ∨ Γ[i]? = some (.io d)) {j : Nat} {a : Addr} (h : MutAt Γ' σ j a) : MutAt Γ σ j a := by
  obtain ⟨_, l2, l3⟩ := putsD_at hp nd
  by_cases hj : j ∈ is
  · rcases h with ⟨_, h2⟩ | ⟨b, P, o, h, _⟩
    · exact .inl ⟨hmu j hj, h2⟩
    · obtain ⟨n, hn, e⟩ := List.mem_iff_getElem.mp hj
      obtain ⟨d, d0, _, ⟨_, z⟩ | ⟨_, z⟩⟩ := l3 (List.replicate is.length a) (by rw [List.length_replicate]) (fun _ _ _ => True) (fun _ _ _ _ _ _ _ => trivial) n j a (by rw [List.getElem?_eq_getElem hn, e]) (by rw [List.getElem?_replicate, if_pos hn]) <;> rw [z] at h <;> cases h
  · unfold MutAt at h ⊢
    rwa [l2 j hj] at h
/-- a call, its arguments being there -/
theorem call_core {Γ1 : Env} {H1 : Hp} {ms : List Md} {sd : DSp} {rs : List Res} {vs : List V} {ds : List D} {Qd : QE} {Q : VK} {E : XK} {Ed : EdT} (R1 : RelO C Γ1 O σ H1) (p1 : Pends C.K O σ H1 vs rs) (hd : argsD Γ1 ms rs = some ds) (hap : apartB ms rs = true)
    (hsd : sd ds (fun b d ds' => ∃ Γ2, putsD (mPls ms rs) ds' Γ1 = some Γ2 ∧ Qd (if b = true then frOf d else .val d) Γ2) Ed) (k : ∀ r Γ' v H', ROk C Γ' O σ H' v r → SE O H1 H' v r → Qd r Γ' → Q v H')
    (kx : ∀ n c d H' O' fds ds', (∀ Γ2, putsD (mPls ms rs) ds' Γ1 = some Γ2 → RelO C Γ2 O' σ H' ∧ Same (hide O H1) (hide O' H')) → XNm C.K n c → XdOk C.K H1 H' d fds → Ed n fds ds' → E (.ref c) d H') : spD C.K ms sd vs H1 Q E := by
  unfold apartB at hap
  rw [Bool.and_eq_true] at hap
  have nd : (mPls ms rs).Nodup := of_decide_eq_true hap.1
  have hb : ∀ i ∈ bPls ms rs, i ∉ mPls ms rs := fun i hi => of_decide_eq_true (List.all_eq_true.mp hap.2 i hi)
  obtain ⟨hc, hmu⟩ := chg_of R1 p1 hd
  have hargs := args_of R1 hc hmu p1 hd hb
  have ndA := chg_nodup R1 hc hmu nd
  refine ⟨O, ds, _, Ed, hargs, R1.al, ndA, hsd, fun v H' O' b d ds' post hms hres hq => ?_, fun n c d H' O' fds ds' post hms hn hx hE => ?_⟩
  · obtain ⟨Γ2, hput, hq⟩ := hq
    have Af : Aft C Γ1 O σ H1 (mAddrs ms vs) O' H' := ⟨post.sub, post.new, post.al, post.fr⟩
    obtain ⟨R2, e2⟩ := rel_after R1 hc nd hmu hput Af (now_of hms)
    have mO : ∀ i a, MutAt Γ2 σ i a → a ∈ O := fun i a m => R1.mutIn (mutAt_put hput nd hmu m)
    have uO : ∀ q ∈ C.U, q.1 ∈ O := fun q hq => (R1.uu q hq).2.1
    obtain ⟨R3, e3⟩ := R2.shrink (O := O) post.sub mO uO R1.oo
    have eA : Same (hide O H1) (hide O H') := L2.Same.trans e2 e3
    cases b with
    | true =>
      rcases hres with hres | ⟨a, ds, p, l, v0, vs, rfl, rfl, h2, h3, h4, h5, h6, h7, h8⟩
      rotate_left
      · refine k (.np a ds) Γ2 _ H' ⟨R3, p, l, v0, vs, rfl, h2, fun z => h3 (post.sub p z), fun z => h4 (post.sub l z), h5, R1.fresh0 h6, h7.mono e3, h8.mono e3⟩ ⟨eA, fun _ _ e => nomatch e⟩ hq
      obtain ⟨p, o, rfl, hpO', hp0, hp, ho⟩ := hres
      have hfr : frOf d = .fr d := by cases ho <;> rfl
      rw [if_pos rfl, hfr] at hq
      have hpO : p ∉ O := R1.notin hp0
      obtain ⟨R4, e4⟩ := R2.shrink (O := p :: O) (fun a ha => (List.mem_cons.mp ha).elim (fun z => z ▸ hpO') (post.sub a)) (fun i a m => List.mem_cons_of_mem _ (mO i a m)) (fun q hq => List.mem_cons_of_mem _ (uO q hq)) fun a ha => List.mem_cons_of_mem _ (R1.oo a ha)
      exact k (.fr d) Γ2 _ H' ⟨R3, p, o, rfl, hp, hpO, R1.fresh0 hp0, ho.mono e4, R4⟩ (.fr (L2.Same.trans e2 e4)) hq
    | false => exact k (.val d) Γ2 v H' ⟨R3, Rep.mono e3 hres⟩ (.val eA) hq
  · refine kx n c d H' O' fds ds' (fun Γ2 hput => ?_) hn hx hE
    have Af : Aft C Γ1 O σ H1 (mAddrs ms vs) O' H' := ⟨post.sub, post.new, post.al, post.fr⟩
    exact rel_after R1 hc nd hmu hput Af (now_of hms)
theorem sim_call {t : TA} {ma : DTA} {ms : List Md} {sd : DSp} {E : XK} (ha : SimA C t ma) : SimE C (tCall (spD C.K ms sd) [] E t) (mCall ms sd ma) := fun Γ O σ H Qd Q R h k => by
  refine ha Γ O σ H _ _ R h fun rs Γ1 vs H1 R1 p1 e1 q1 => ?_
  obtain ⟨ds, hd, hap, hsd⟩ := q1
  show spD C.K ms sd (vs ++ []) H1 Q E
  rw [List.append_nil]
  exact call_core R1 p1 hd hap hsd (fun r Γ' v H' r1 se q => k r Γ' v H' r1 (.after e1 se) q) fun _ _ _ _ _ _ _ _ _ _ z => z.elim
end
/-- f(..), f a def that lets no exception out for these arguments -/
theorem de_call {X : Cx} {C : Ctx} {k : Nat} {f : Addr} {fd : FuncData} {ps : List Str} {ms : List Md} {sd : DSp} {x : Str} {p pos : Pos} {e : Expr} {es : List Expr} {t : TA} {ma : DTA} (F : FnG X.prog X.w X.K X.mg X.base k f fd ps (spD X.K ms sd)) (hg : X.A.guards = some []) (hr : Room k X.A) (hgl : Gl X x) (hm : X.mg x = some (.ref f)) (hk : PySem.W.keepIn X.K (.ref f) = true) (hb : Binds X.K fd ps [])
    (ha : DA X C (e :: es) t ma) {K0 : Fg} (hK0 : X.K = K0 := by rfl) (hK : K0 = C.K := by rfl) (hdb : (x == ("__debug__" : Str)) = false := by decide) (he : starEach (e :: es) X.env = (false, eval e X.env) :: starEach es X.env := by rfl) (hpl : (backTo pos (starEach es X.env)).any (·.1) = false := by rfl) :
    DE X C (.Call (.Name x p) (e :: es) [] pos) (tCall (spD K0 ms sd) [] E0 t) (mCall ms sd ma) := by
  subst hK0
  exact (⟨pe_g F hg hr hgl hm hk hb .nil passL ha.pa hdb he hpl, by rw [hK]; exact sim_call ha.sim⟩)
/-! ### the end of a law -/
/-- the script as data -/
theorem only_rep {K : Fg} {H : Hp} {a : Addr} {ns : List Int} (h : SqL K H a (ns.map V.int)) : Rep K H (.ref a) (.scr (ns.map D.int)) := .scr h (Reps.of_ints ns)
theorem law_go {P : Program} {w : World} {K : Fg} {mg mb : Str → Option Value} {k : Nat} {fa a : Addr} {fd : FuncData} {x : Str} {sp : Sp} {s₁ : Shared} {vs : List Value} {ns : List Int}
    (KX : K.In s₁.heap) (hns : s₁.heap.Ns mainGlobals mg) (hb : s₁.heap.Ns builtinsNs mb) (hbb : ∀ x : Str, x ≠ "__name__" → mb x = bootBuiltins x) (hlim : s₁.heap.NoLimit) (hg : s₁.gens = #[])
    (ha : s₁.heap.get? a = some { cls := .type "list", data := .seq vs.toArray }) (hi : IntsAre vs ns) (hl : ns.length ≤ sizeLine) (hr : Room k callerA)
    (F : ∀ base : Heap, K.In base → base.Ns mainGlobals mg → FnG P w K mg base k fa fd [x] sp) (hbind : ∀ (s : Shared) (u : Value), BindsTo s fd ⟨[u], []⟩ [(x, u)])
    (hsp : ∀ H : Hp, Only H → SqL K H a (ns.map V.int) → sp [.ref a] H (fun v _ => v = .bl true) E0) :
    codeAny (model P w) callerA (.call (.ref fa) ⟨[.ref a], []⟩) (fun r s' => r = .ok (.ret (.bool true)) ∧ OldK s₁.heap s'.heap ∧ s'.os = s₁.os ∧ AllBare s'.gens) s₁ := by
  -- the layer's own end asks a def that keeps its promise everywhere; here one fixed surrounding is enough
  have one : ∀ base : Heap, K.In base → base.Ns mainGlobals mg → FnOk P w K mg base (fun o H s E u s' => False) 0 fa fd [x] (fun _ _ _ _ => False) := fun base _ _ => ⟨fun _ _ _ _ h => h.elim, fun _ _ _ _ _ _ _ _ _ _ _ _ _ h => h.elim⟩
  have rv := vals_ints hi
  have core : ∀ H : Hp, Only H → SqL K H a (ns.map V.int) → HOk P w H s₁.heap → (∀ b, H b ≠ none → b = a) → (H a ≠ none → K.lookup a = none) →
      codeAny (model P w) callerA (.call (.ref fa) ⟨[.ref a], []⟩) (fun r s' => r = .ok (.ret (.bool true)) ∧ OldK s₁.heap s'.heap ∧ s'.os = s₁.os ∧ AllBare s'.gens) s₁ := by
    intro H hO hS hok hA hK
    have none_or : ∀ b, H b = none ∨ b = a := fun b => by
      cases q : H b with
      | none => exact .inl rfl
      | some u => exact .inr (hA b (by rw [q]; simp))
    have free : ∀ {b : Addr} {o : Obj}, s₁.heap.get? b = some o → (∀ es ep, o.data = .dict es ep → True) → (b ≠ a) → H b = none := fun {b o} _ _ n => (none_or b).resolve_right n
    have isD : ∀ {b : Addr} {o : Obj} {es : Array DictEntry} {ep : Nat}, s₁.heap.get? b = some o → o.data = .dict es ep → b ≠ a := fun {b o es ep} e d z => by
      rw [z, ha] at e
      cases e
      cases d
    have nsK : ∀ {b : Addr} {m : Str → Option Value}, s₁.heap.Ns b m → (hidT s₁.heap H).Ns b m := fun {b m} h => by
      obtain ⟨o, es, ep, e, d, r⟩ := h
      exact ⟨o, es, ep, hidT_get e ((none_or b).resolve_right (isD e d)), d, r⟩
    have hKb : K.In (hidT s₁.heap H) := fun b o e => hidT_get (KX b o e) (by
      rcases none_or b with z | z
      · exact z
      · subst z
        cases q : H b with
        | none => rfl
        | some u => rw [hK (by rw [q]; simp)] at e; cases e)
    have hM : Mod K mg (hidT s₁.heap H) := ⟨hKb, nsK hns, ⟨mb, nsK hb, hbb⟩, hlim.elim fun mc h => ⟨mc, nsK h.1, h.2⟩⟩
    have e0 : Env0 P w K mg (hidT s₁.heap H) callerA [] s₁ H := ⟨rfl, hM, fun b o e => of_hidT e, Nat.le_of_eq (hidT_size _ _), trivial, fun b hb => absurd hb (by simp [frs]), hok, .of_eq hg⟩
    refine codeAny_mono ((F _ hKb (nsK hns)).go callerA rfl hr [] s₁ H ⟨[.ref a], []⟩ [.ref a] [.ref a] _ _ e0 (hbind s₁ (.ref a)) (.cons rfl .nil) (hsp H hO hS)) ?_
    intro r s' h
    match r, h with
    | .error e, h =>
      obtain ⟨_, _, _, _, _, _, _, _, _, _, _, _, z⟩ := (show L2.CX P w [] H s₁ E0 e s' from h)
      exact z.elim
    | .ok .next, h => exact False.elim h
    | .ok .brk, h => exact False.elim h
    | .ok .cont, h => exact False.elim h
    | .ok (.ret u), h =>
      obtain ⟨v, H', os, bare, un, hok', r', q⟩ := h
      have q' : v = .bl true := q
      subst q'
      obtain rfl : u = Value.bool true := r'
      refine ⟨rfl, OldK.of_keep fun b o e => ?_, os, bare⟩
      rcases hO b with z | ⟨ob, xs, z⟩
      · exact un.keep b o e z (by simp [frs]) (by simp)
      · obtain ⟨e1, _⟩ := hok b _ z
        obtain ⟨e2, _⟩ := hok' b _ (un.frzs b ob _ z)
        rw [e] at e1
        cases e1
        exact e2
  cases hk : K.lookup a with
  | some o =>
    have e := KX a o hk
    rw [ha] at e
    cases e
    exact core (fun _ => none) (fun _ => .inl rfl) (.inr ⟨_, vs.toArray, _, hk, rfl, rfl, rfl, by rw [List.size_toArray, hi.length]; exact hl, by simpa using rv⟩) (fun b u z => by cases z) (fun b z => absurd rfl z) fun z => absurd rfl z
  | none =>
    refine core (fun b => if b = a then some (.frz { cls := .type "list", data := .seq vs.toArray } (.lst (ns.map V.int))) else none) (fun b => ?_) (.inl (.inr ⟨_, if_pos rfl⟩)) (fun b u z => ?_) (fun b z => ?_) fun _ => hk
    · by_cases hb : b = a
      · exact .inr ⟨_, _, if_pos hb⟩
      · exact .inl (if_neg hb)
    · by_cases hb : b = a
      · cases (if_pos hb).symm.trans z
        subst hb
        exact ⟨ha, by rw [List.length_map]; exact hl, vs, _, rv, ha⟩
      · cases (if_neg hb).symm.trans z
    · by_cases hb : b = a
      · exact hb
      · exact absurd (if_neg hb) z
/-- what the law's own def promises -/
def lawSp (sd : DSp) : Prop := ∀ ns : List Int, ns.length ≤ 63 → sd [.scr (ns.map D.int)] (fun _ d _ => d = .bl true) noX
theorem walk_g {l : PySem.W.OpenLaw} {n k : Nat} {q : Program} {loose : List Str} {XP : (Str → Option Value) → Heap → Prop} {YP : World → Heap → Prop} {d : DefRec} {K : Params → Fg} {sd : DSp} {x : Str}
    (hn : l.most = some n) (hn2 : n ≤ sizeLine) (hdf : d.params.defaults = []) (hr : Room k callerA)
    (hY : ∀ (w : World) (h : Heap), YP w h → (K w.params).In h)
    (F : ∀ (w : World) (mg : Str → Option Value) (fa : Addr) (h : Heap), (K w.params).In h → h.Ns mainGlobals mg → mg d.name = some (.ref fa) →
      ∃ fd : FuncData, (∀ (s : Shared) (u : Value), BindsTo s fd ⟨[u], []⟩ [(x, u)]) ∧
        ∀ base : Heap, (K w.params).In base → base.Ns mainGlobals mg → FnG l.prog w (K w.params) mg base k fa fd [x] (spD (K w.params) [.S] sd))
    (hsd : ∀ ns : List Int, ns.length ≤ n → sd [.scr (ns.map D.int)] (fun _ d _ => d = .bl true) noX) :
    PySem.W.WalkO q loose XP YP l.row.toRowW d [] (fun f vs => PySem.call f vs) := by
  refine Att.attach_call hn hdf fun w s₀ s₁ mg mb fa o pm cd doc a vs ns G Y ho hd hcd hmg hobj hints hlen hg => ?_
  have KX := hY w _ Y
  obtain ⟨fd, hb, hF⟩ := F w mg fa _ KX G.T.g hmg
  refine law_go KX G.T.g G.T.b G.T.builtins G.T.nolimit hg hobj hints (Nat.le_trans hlen hn2) hr hF hb fun H hO hS => ?_
  refine ⟨[], [.scr (ns.map D.int)], _, noX, .S ?_ .nil, fun a h => absurd h (by simp), ?_, hsd ns hlen, fun v H' O' b d ds' _ _ hres hq => ?_, fun _ _ _ _ _ _ _ _ _ _ _ z => z.elim⟩
  · have e : hide [] H = H := by
      funext b
      exact hide_out (by simp)
    rw [e]
    exact only_rep hS
  · show (mA .S (.ref a) ++ mAddrs [] []).Nodup
    exact List.nodup_nil
  · have hq : d = .bl true := hq
    subst hq
    cases b with
    | true =>
      rcases hres with ⟨_, _, _, _, _, _, h⟩ | ⟨_, _, _, _, _, _, h, _⟩ <;> cases h
    | false =>
      have h : Rep _ _ v (.bl true) := hres
      cases h
      rfl
end DL
/-! the data layer, part 11: methods of lists, assignments of several values -/
namespace DL
open PySem PySem.Spec PyProof.Rows L2
/-! ### methods of an own list -/
/-- the content of a place that may be changed -/
def mcont : Option Sl → Option D
  | some (.ow d) => some d
  | some (.io d) => some d
  | _ => none
/-- o.m(..) that changes the place: f of the content and the arguments: the new content, the answer -/
def mMut (f : D → List D → (D → Res → Prop) → Prop) (mo : DTE) (ma : DTA) : DTE := fun Γ Q => mo Γ fun ro Γ1 => ∃ i, ro = .pl i ∧ (∃ ds, cont Γ1[i]? = some (.lst ds)) ∧ ma Γ1 fun rs Γ2 => ∃ c ds, mcont Γ2[i]? = some c ∧ dats rs = some ds ∧ f c ds fun c' z => ∃ Γ3, setC Γ2 i c' = some Γ3 ∧ Q z Γ3
def appendD : D → List D → (D → Res → Prop) → Prop
  | .lst xs, [y], Q => xs.length < 100000 ∧ Q (.lst (xs ++ [y])) (.val .non)
  | _, _, _ => False
def insertD : D → List D → (D → Res → Prop) → Prop
  | .lst xs, [.int i, y], Q => (xs.length < 100000 ∧ 0 ≤ i ∧ i < 2 ^ 63) ∧ Q (.lst (xs.take i.toNat ++ [y] ++ xs.drop i.toNat)) (.val .non)
  | _, _, _ => False
def popD : D → List D → (D → Res → Prop) → Prop
  | .lst xs, [], Q => ∃ y, xs[xs.length - 1]? = some y ∧ Q (.lst xs.dropLast) (.val y)
  | .lst xs, [.int i], Q => (-(2 ^ 63) ≤ i ∧ i < 2 ^ 63) ∧ ∃ k y, seqIndex? i xs.length = some k ∧ xs[k]? = some y ∧ Q (.lst (xs.eraseIdx k)) (.val y)
  | _, _, _ => False
def reverseD : D → List D → (D → Res → Prop) → Prop
  | .lst xs, [], Q => Q (.lst xs.reverse) (.val .non)
  | _, _, _ => False
def clearD : D → List D → (D → Res → Prop) → Prop
  | .lst xs, [], Q => Q (.lst []) (.val .non)
  | _, _, _ => False
/-- a change by values -/
def SimMt (K : Fg) (r : V → List V → Hp → VK → Prop) (f : D → List D → (D → Res → Prop) → Prop) : Prop := ∀ (O : List Addr) (H : Hp) (l : Addr) (o : HO) (c : D) (vs : List V) (ds : List D) (Qd : D → Res → Prop) (Q : VK), H l = some o → OwnOk K (hide O H) o c → Reps K (hide O H) vs ds → f c ds Qd →
  (∀ o' c' v d, OwnOk K (hide O H) o' c' → Rep K (hide O H) v d → Qd c' (.val d) → Q v (upd H l o')) → r (.ref l) vs H Q
section
variable {K : Fg} {C : Ctx} {X : Cx}
theorem Reps.one {H : Hp} {vs : List V} {d : D} (h : Reps K H vs [d]) : ∃ v, vs = [v] ∧ Rep K H v d := by
  cases h with | cons h t => cases t; exact ⟨_, rfl, h⟩
theorem Reps.two {H : Hp} {vs : List V} {d e : D} (h : Reps K H vs [d, e]) : ∃ v w, vs = [v, w] ∧ Rep K H v d ∧ Rep K H w e := by
  cases h with | cons h t => cases t with | cons h' t => cases t; exact ⟨_, _, rfl, h, h'⟩
theorem smt_append : SimMt K rAppend appendD := fun O H l o c vs ds Qd Q hl ho hr q k => by
  unfold appendD at q
  split at q
  · cases ho with
    | lst rr =>
      obtain ⟨v, rfl, rv⟩ := hr.one
      exact ⟨l, _, v, rfl, rfl, hl, by rw [rr.length]; exact Nat.lt_of_lt_of_le q.1 (by decide), k _ _ _ _ (.lst (rr.append (.cons rv .nil))) .non q.2⟩
  · exact q.elim
theorem mcont_of {Γ : Env} {i : Nat} {c : D} (h : mcont Γ[i]? = some c) : Γ[i]? = some (.ow c) ∨ Γ[i]? = some (.io c) := by
  unfold mcont at h
  split at h
  · rename_i d e; cases h; exact .inl e
  · rename_i d e; cases h; exact .inr e
  · cases h
theorem sim_mut {to : TE} {t : TA} {mo : DTE} {ma : DTA} {r : V → List V → Hp → VK → Prop} {f : D → List D → (D → Res → Prop) → Prop} (ho : SimE C to mo) (ha : SimA C t ma) (hr : SimMt C.K r f) : SimE C (tBM C.K "list" r to t) (mMut f mo ma) := fun Γ O σ H Qd Q R h k => by
  refine ho Γ O σ H _ _ R h fun ro Γ1 x H1 R1 e1 q1 => ?_
  obtain ⟨i, rfl, ⟨ds0, hc0⟩, q1⟩ := q1
  obtain ⟨a, vs0, rfl, hl0, _⟩ := (Pend.b2 (r := .pl i) R1.rel R1.2 hc0).lst
  refine ⟨.inl ⟨rfl, _, SqL.of hl0⟩, ?_⟩
  refine ha Γ1 O σ H1 _ _ R1.rel q1 fun rs Γ2 vs H2 R2 p2 e2 q2 => ?_
  obtain ⟨c, ds, hc, hd, q⟩ := q2
  have hs : σ[i]? = some (some (.ref a)) := R1.2
  have hm := mcont_of hc
  have pl : ∃ o, H2 a = some o ∧ OwnOk C.K (hide O H2) o c := by
    rcases hm with g | g
    · obtain ⟨l, o, h1, _, _, h4, h5⟩ := R2.sl i _ g
      rw [hs] at h1; cases h1; exact ⟨o, h4, h5⟩
    · obtain ⟨l, o, h1, _, _, h4, h5⟩ := R2.sl i _ g
      rw [hs] at h1; cases h1; exact ⟨o, h4, h5⟩
  obtain ⟨o, hl, hb⟩ := pl
  refine hr O H2 a o c vs ds _ Q hl hb (dats_ok p2 hd) q fun o' c' v d ho' hv hq => ?_
  obtain ⟨Γ3, hset, hq⟩ := hq
  obtain ⟨R3, e3⟩ := set_relO R2 hset hs ho'
  exact k (.val d) Γ3 v _ ⟨R3, hv.mono e3⟩ (.val (L2.Same.trans e1.1 (L2.Same.trans e2 e3))) hq
variable {o e : Expr} {es : List Expr} {to : TE} {t : TA} {mo : DTE} {ma : DTA} {apos cpos : Pos}
theorem de_append (h : PE X o to → PA X [e] t → PE X (.Call (.Attribute o "append" apos) [e] [] cpos) (tBM X.K "list" rAppend to t)) (ho : DE X C o to mo) (ha : DA X C [e] t ma) {K0 : Fg} (hK0 : X.K = K0 := by rfl) (hK : K0 = C.K := by rfl) : DE X C (.Call (.Attribute o "append" apos) [e] [] cpos) (tBM K0 "list" rAppend to t) (mMut appendD mo ma) := by
  subst hK0
  exact (⟨h ho.pe ha.pa, by rw [hK]; exact sim_mut ho.sim ha.sim smt_append⟩)
end
/-! ### several values at once -/
inductive PR (K : Fg) (O : List Addr) (H : Hp) : List (Addr × HO) → List V → List Res → Prop
  | nil : PR K O H [] [] []
  | val {us : List (Addr × HO)} {v : V} {d : D} {vs : List V} {rs : List Res} : Rep K (hide O H) v d → PR K O H us vs rs → PR K O H us (v :: vs) (.val d :: rs)
  | fr {us : List (Addr × HO)} {p : Addr} {o : HO} {d : D} {vs : List V} {rs : List Res} : OwnOk K (hide O H) o d → PR K O H us vs rs → PR K O H ((p, o) :: us) (.ref p :: vs) (.fr d :: rs)
theorem PR.mono {K : Fg} {O O' : List Addr} {H H' : Hp} (e : Same (hide O H) (hide O' H')) : ∀ {us : List (Addr × HO)} {vs : List V} {rs : List Res}, PR K O H us vs rs → PR K O' H' us vs rs
  | _, _, _, .nil => .nil
  | _, _, _, .val h t => .val (h.mono e) (PR.mono e t)
  | _, _, _, .fr h t => .fr (h.mono e) (PR.mono e t)
/-- values that wait, with the new objects among them owned -/
structure RelP (C : Ctx) (Γ : Env) (O : List Addr) (σ : L2.St) (H : Hp) (us : List (Addr × HO)) (vs : List V) (rs : List Res) : Prop where
  rel : RelO { C with U := us ++ C.U } Γ O σ H
  pr : PR C.K O H us vs rs
  nd : (us.map (·.1)).Nodup
  h0 : ∀ q ∈ us, C.H0 q.1 = none
  ap : ∀ q ∈ us, ∀ q' ∈ C.U, q'.1 ≠ q.1
abbrev DTP := Env → (List Res → Env → Prop) → Prop
def SimP (C : Ctx) (t : TA) (m : DTP) : Prop := ∀ (Γ : Env) (O : List Addr) (σ : L2.St) (H : Hp) (Qd : List Res → Env → Prop) (Q : List V → Hp → Prop), RelO C Γ O σ H → m Γ Qd →
  (∀ rs Γ' vs H' O' us, RelP C Γ' O' σ H' us vs rs → Same (hide O H) (hide O' H') → (∀ a ∈ O, a ∈ O') → Qd rs Γ' → Q vs H') → t σ H Q
def isPl : Res → Bool
  | .pl _ => true
  | .np _ _ => true
  | _ => false
def mPNil : DTP := fun Γ Q => Q [] Γ
def mPCons (ma : DTE) (mr : DTP) : DTP := fun Γ Q => ma Γ fun r Γ1 => isPl r = false ∧ mr Γ1 fun rs Γ2 => Q (r :: rs) Γ2
section
variable {C : Ctx}
theorem sim_pnil : SimP C tNil mPNil := fun Γ O σ H Qd Q R h k => k [] Γ [] H O [] ⟨R.congrU R.uu, .nil, List.nodup_nil, fun _ h => absurd h (by simp), fun _ h => absurd h (by simp)⟩ (L2.Same.refl _) (fun _ h => h) h
theorem sim_pcons {ta : TE} {tr : TA} {ma : DTE} {mr : DTP} (ha : SimE C ta ma) (hr : ∀ U, SimP { C with U := U } tr mr) : SimP C (tCons ta tr) (mPCons ma mr) := fun Γ O σ H Qd Q R h k => by
  refine ha Γ O σ H _ _ R h fun r Γ1 v H1 R1 e1 q1 => ?_
  obtain ⟨hp, q1⟩ := q1
  cases r with
  | pl i => cases hp
  | np a ds => cases hp
  | val d =>
    refine hr C.U Γ1 O σ H1 _ _ R1.1 q1 fun rs Γ2 vs H2 O2 us P2 e2 s2 q2 => ?_
    exact k _ Γ2 _ H2 O2 us ⟨P2.rel, .val (R1.2.mono e2) P2.pr, P2.nd, P2.h0, P2.ap⟩ (L2.Same.trans e1.1 e2) s2 q2
  | fr d =>
    obtain ⟨R0, p, o, rfl, hpp, hpO, h0, ho, R2⟩ := R1
    have hm : ∀ i, ¬ MutAt Γ1 σ i p := fun i m => hpO (R0.mutIn m)
    have hU : ∀ q ∈ C.U, q.1 ≠ p := fun q hq z => hpO (z ▸ (R0.uu q hq).2.1)
    have RU : RelO { C with U := (p, o) :: C.U } Γ1 (p :: O) σ H1 := R2.congrU fun q hq => by
      rcases List.mem_cons.mp hq with z | z
      · subst z; exact ⟨hpp, List.mem_cons_self, hm⟩
      · exact R2.uu q z
    have es : Same (hide O H) (hide (p :: O) H1) := e1.2 d p rfl rfl
    refine hr ((p, o) :: C.U) Γ1 (p :: O) σ H1 _ _ RU q1 fun rs Γ2 vs H2 O2 us P2 e2 s2 q2 => ?_
    have apP : ∀ q ∈ us, q.1 ≠ p := fun q hq z => P2.ap q hq (p, o) List.mem_cons_self z.symm
    refine k _ Γ2 _ H2 O2 ((p, o) :: us) ⟨P2.rel.subU (U' := (p, o) :: us ++ C.U) (C := C) fun q hq => ?_, .fr (ho.mono e2) P2.pr, List.nodup_cons.mpr ⟨fun z => ?_, P2.nd⟩, fun q hq => ?_, fun q hq q' hq' => ?_⟩ ?_ (fun a ha => s2 a (List.mem_cons_of_mem _ ha)) q2
    · rcases List.mem_append.mp hq with z | z
      · rcases List.mem_cons.mp z with z | z
        · subst z; exact List.mem_append_right _ List.mem_cons_self
        · exact List.mem_append_left _ z
      · exact List.mem_append_right _ (List.mem_cons_of_mem _ z)
    · obtain ⟨q, hq, e⟩ := List.mem_map.mp z
      exact apP q hq e
    · rcases List.mem_cons.mp hq with z | z
      · subst z; exact h0
      · exact P2.h0 q z
    · rcases List.mem_cons.mp hq with z | z
      · subst z; exact hU q' hq'
      · exact P2.ap q z q' (List.mem_cons_of_mem _ hq')
    · exact L2.Same.trans es e2
end
end DL
/-! the data layer, part 12: a, b = x, y; x[i] op= e -/
namespace DL
open PySem PySem.Spec PyProof.Rows L2
inductive Tg where
  | sh (i : Nat)
  | ow (i : Nat)
  | sub (mo mi : DTE)
  | gen (mg : DTG)
def mTgs : List Tg → List Res → Env → (Env → Prop) → Prop
  | [], [], Γ, Q => Q Γ
  | .sh i :: ts, r :: rs, Γ, Q => ∃ d, dat r = some d ∧ freeB Γ i = true ∧ mTgs ts rs (Γ.set i (.sh d)) Q
  | .ow i :: ts, r :: rs, Γ, Q => ∃ d, r = .fr d ∧ freeB Γ i = true ∧ mTgs ts rs (Γ.set i (.ow d)) Q
  | .sub mo mi :: ts, r :: rs, Γ, Q => ∃ d, dat r = some d ∧ mgSub mo mi stD d Γ fun Γ1 => mTgs ts rs Γ1 Q
  | .gen mg :: ts, r :: rs, Γ, Q => ∃ d, dat r = some d ∧ mg d Γ fun Γ1 => mTgs ts rs Γ1 Q
  | _, _, _, _ => False
def SimTs (C : Ctx) (g : TGs) (ts : List Tg) : Prop := ∀ (Γ : Env) (O : List Addr) (σ : L2.St) (H : Hp) (us : List (Addr × HO)) (vs : List V) (rs : List Res) (Qd : Env → Prop) (Q : L2.St → Hp → Prop), RelP C Γ O σ H us vs rs → mTgs ts rs Γ Qd →
  (∀ Γ' O' σ' H', RelO C Γ' O' σ' H' → Qd Γ' → Q σ' H') → g vs σ H Q
section
variable {C : Ctx} {Γ : Env} {O : List Addr} {σ : L2.St} {H : Hp} {us : List (Addr × HO)} {v : V} {vs : List V} {r : Res} {rs : List Res} {d : D} {i : Nat}
/-- the first of the waiting values is taken as shared -/
theorem RelP.take (P : RelP C Γ O σ H us (v :: vs) (r :: rs)) (hd : dat r = some d) : ∃ O' us', RelP C Γ O' σ H us' vs rs ∧ Rep C.K (hide O' H) v d := by
  cases P with
  | mk R pr nd h0 ap =>
    cases pr with
    | val h t => cases hd; exact ⟨O, us, ⟨R, t, nd, h0, ap⟩, h⟩
    | fr h t =>
      rename_i us' p o d'
      cases hd
      obtain ⟨n1, n2⟩ := List.nodup_cons.mp nd
      have apU : ∀ q ∈ us', q.1 ≠ p := fun q hq z => n1 (by rw [← z]; exact List.mem_map.mpr ⟨q, hq, rfl⟩)
      obtain ⟨hp, hpO, hm⟩ := R.uu (p, o) List.mem_cons_self
      have R' : RelO { C with U := us' ++ C.U } Γ O σ H := R.subU (U' := us' ++ C.U) (C := C) fun q hq => List.mem_cons_of_mem _ hq
      obtain ⟨R2, e⟩ := R'.letgo (p := p) (O' := O.filter fun a => decide (a ≠ p)) (h0 (p, o) List.mem_cons_self) hm (fun q hq => by
        rcases List.mem_append.mp hq with z | z
        · exact apU q z
        · exact ap (p, o) List.mem_cons_self q z) fun a => by simp [List.mem_filter]
      refine ⟨_, us', ⟨R2, t.mono e, n2, fun q hq => h0 q (List.mem_cons_of_mem _ hq), fun q hq => ap q (List.mem_cons_of_mem _ hq)⟩, (h.mono e).rep ?_⟩
      rw [hide_out (by simp [List.mem_filter])]
      exact hp
theorem sim_tnil : SimTs C gNil [] := fun Γ O σ H us vs rs Qd Q P h k => by
  cases P with
  | mk R pr nd h0 ap =>
    cases pr with
    | nil => exact ⟨rfl, k Γ O σ H (R.backU (C := C) fun q hq => List.mem_append_right _ hq) h⟩
    | val _ _ => exact h.elim
    | fr _ _ => exact h.elim
theorem sim_tsh {gs : TGs} {ts : List Tg} (hs : SimTs C gs ts) (i : Nat) : SimTs C (gCons (gName i) gs) (.sh i :: ts) := fun Γ O σ H us vs rs Qd Q P h k => by
  cases rs with
  | nil => exact h.elim
  | cons r rs =>
    obtain ⟨d, hd, hf, h⟩ := h
    cases vs with
    | nil => cases P.pr
    | cons v vs =>
      obtain ⟨O', us', P', hr⟩ := P.take hd
      exact ⟨v, vs, rfl, hs _ O' _ H us' vs rs _ _ ⟨P'.rel.setSh (freeB_of hf) hr, P'.pr, P'.nd, P'.h0, P'.ap⟩ h k⟩
theorem sim_tow {gs : TGs} {ts : List Tg} (hs : SimTs C gs ts) (i : Nat) : SimTs C (gCons (gName i) gs) (.ow i :: ts) := fun Γ O σ H us vs rs Qd Q P h k => by
  cases rs with
  | nil => exact h.elim
  | cons r rs =>
    obtain ⟨d, rfl, hf, h⟩ := h
    cases P with
    | mk R pr nd h0 ap =>
      cases pr with
      | fr ho t =>
        rename_i us' p o vs
        obtain ⟨n1, n2⟩ := List.nodup_cons.mp nd
        obtain ⟨hp, hpO, hm⟩ := R.uu (p, o) List.mem_cons_self
        have R' : RelO { C with U := us' ++ C.U } Γ O σ H := R.subU (U' := us' ++ C.U) (C := C) fun q hq => List.mem_cons_of_mem _ hq
        have hU : ∀ q ∈ us' ++ C.U, q.1 ≠ p := fun q hq => by
          rcases List.mem_append.mp hq with z | z
          · exact fun e => n1 (by rw [← e]; exact List.mem_map.mpr ⟨q, z, rfl⟩)
          · exact ap (p, o) List.mem_cons_self q z
        have R2 : RelO { C with U := us' ++ C.U } (Γ.set i (.ow d)) O (σ.set i (some (.ref p))) H := R'.set (freeB_of hf) (fun hl => ⟨p, o, List.getElem?_set_self hl, hpO, h0 (p, o) List.mem_cons_self, hp, ho⟩) (fun j a n m1 m2 => by
          have e := get_set_same m2.ow2
          have e2 := V.ref.inj (Option.some.inj e)
          exact hm j (by rw [e2]; exact m1)) fun q hq m => by
            have e := get_set_same m.ow2
            exact hU q hq (V.ref.inj (Option.some.inj e)).symm
        exact ⟨.ref p, vs, rfl, hs _ O _ H us' vs rs _ _ ⟨R2, t, n2, fun q hq => h0 q (List.mem_cons_of_mem _ hq), fun q hq => ap q (List.mem_cons_of_mem _ hq)⟩ h k⟩
theorem sim_tsub {gs : TGs} {ts : List Tg} {to ti : TE} {mo mi : DTE} (ho : ∀ U, SimE { C with U := U } to mo) (hi : ∀ U, SimE { C with U := U } ti mi) (hs : SimTs C gs ts) : SimTs C (gCons (gSub to ti rSetL) gs) (.sub mo mi :: ts) := fun Γ O σ H us vs rs Qd Q P h k => by
  cases rs with
  | nil => exact h.elim
  | cons r rs =>
    obtain ⟨d, hd, h⟩ := h
    cases vs with
    | nil => cases P.pr
    | cons v vs =>
      obtain ⟨O', us', P', hr⟩ := P.take hd
      refine ⟨v, vs, rfl, sim_gSub (ho (us' ++ C.U)) (hi (us' ++ C.U)) Γ O' σ H v d _ _ P'.rel hr h fun Γ1 σ1 H1 R1 e1 q1 => ?_⟩
      exact hs Γ1 O' σ1 H1 us' vs rs _ _ ⟨R1, P'.pr.mono e1, P'.nd, P'.h0, P'.ap⟩ q1 k
def mPar (mp : DTP) (ts : List Tg) : DTS := fun D Γ => mp Γ fun rs Γ1 => mTgs ts rs Γ1 D.nx
theorem sim_par2 {ta : TA} {mp : DTP} {i j : Nat} {t1 t2 : Tg} (hp : SimP C ta mp) (hs : SimTs C (gCons (gName i) (gCons (gName j) gNil)) [t1, t2]) : SimS C (tPar i j ta) (mPar mp [t1, t2]) := fun Γ O σ H D Dd R h L =>
  hp Γ O σ H _ _ R h fun rs Γ1 vs H1 O1 us P e s q => by
    obtain ⟨v, r, rfl, v2, r2, rfl, rfl, q2⟩ := hs Γ1 O1 σ H1 us vs rs _ D.nx P q fun Γ2 O2 σ2 H2 R2 q2 => L.nx Γ2 O2 σ2 H2 R2 q2
    exact ⟨v, v2, rfl, q2⟩
theorem sim_par3 {ta : TA} {mp : DTP} {i j l : Nat} {t1 t2 t3 : Tg} (hp : SimP C ta mp) (hs : SimTs C (gCons (gName i) (gCons (gName j) (gCons (gName l) gNil))) [t1, t2, t3]) : SimS C (tPar3 i j l ta) (mPar mp [t1, t2, t3]) := fun Γ O σ H D Dd R h L =>
  hp Γ O σ H _ _ R h fun rs Γ1 vs H1 O1 us P e s q => by
    obtain ⟨v, r, rfl, v2, r2, rfl, v3, r3, rfl, rfl, q2⟩ := hs Γ1 O1 σ H1 us vs rs _ D.nx P q fun Γ2 O2 σ2 H2 R2 q2 => L.nx Γ2 O2 σ2 H2 R2 q2
    exact ⟨v, v2, v3, rfl, q2⟩
theorem PR.len {K : Fg} : ∀ {us : List (Addr × HO)} {vs : List V} {rs : List Res}, PR K O H us vs rs → vs.length = rs.length
  | _, _, _, .nil => rfl
  | _, _, _, .val _ t => by rw [List.length_cons, List.length_cons, PR.len t]
  | _, _, _, .fr _ t => by rw [List.length_cons, List.length_cons, PR.len t]
/-- a, b, .. = x, y, .. by way of a tuple -/
theorem sim_asgT {ta : TA} {mp : DTP} {gs : TGs} {ts : List Tg} {n : Nat} (hp : SimP C ta mp) (hs : SimTs C gs ts) (hn : n ≤ 100000) : SimS C (tAsg (tTup ta) (gTup C.K n gs)) (fun D Γ => mp Γ fun rs Γ1 => rs.length = n ∧ mTgs ts rs Γ1 D.nx) := fun Γ O σ H D Dd R h L =>
  hp Γ O σ H _ _ R h fun rs Γ1 vs H1 O1 us P e s q => by
    obtain ⟨hl, q⟩ := q
    have lv : vs.length = n := by rw [P.pr.len, hl]
    refine ⟨by rw [lv]; exact sz5 hn, fun p hp1 => ⟨p, vs, rfl, SqT.of upd_same, lv, ?_⟩⟩
    exact hs Γ1 O1 σ _ us vs rs _ _ ⟨P.rel.alloc hp1, P.pr.mono (hide_new hp1), P.nd, P.h0, P.ap⟩ q fun Γ2 O2 σ2 H2 R2 q2 => L.nx Γ2 O2 σ2 H2 R2 q2
end
/-- the values on the right -/
structure DPa (X : Cx) (C : Ctx) (es : List Expr) (t : TA) (m : DTP) : Prop where
  pa : PA X es t
  sim : SimP C t m
structure DTs (X : Cx) (C : Ctx) (es : List Expr) (g : TGs) (ts : List Tg) : Prop where
  pgs : PGs X es g
  sim : SimTs C g ts
def mPar3 (n : Nat) (mp : DTP) (ts : List Tg) : DTS := fun D Γ => mp Γ fun rs Γ1 => rs.length = n ∧ mTgs ts rs Γ1 D.nx
section
variable {X : Cx} {C : Ctx} {st : Stmt} {ta : TA} {mp : DTP} {e : Expr} {es : List Expr} {te : TE} {me : DTE} {pos : Pos}
theorem dp_nil : DPa X C [] tNil mPNil := ⟨pa_nil, sim_pnil⟩
theorem dp_cons {tr : TA} {mr : DTP} (ha : DE X C e te me) (hr : ∀ U, DPa X { C with U := U } es tr mr) (hs : starEach (e :: es) X.env = (false, eval e X.env) :: starEach es X.env := by rfl) : DPa X C (e :: es) (tCons te tr) (mPCons me mr) := ⟨pa_cons ha.pe (hr C.U).pa hs, sim_pcons ha.sim fun U => (hr U).sim⟩
theorem dts_nil : DTs X C [] gNil [] := ⟨pgs_nil, sim_tnil⟩
theorem dts_sh {x : Str} {gs : TGs} {ts : List Tg} (i : Nat) (h : PG X (.Name x pos) (gName i)) (hr : DTs X C es gs ts) (hs : (assignEach (.Name x pos :: es) X.env).map (·.2) = assign (.Name x pos) X.env :: (assignEach es X.env).map (·.2) := by rfl) : DTs X C (.Name x pos :: es) (gCons (gName i) gs) (.sh i :: ts) := ⟨pgs_cons h hr.pgs hs, sim_tsh hr.sim i⟩
theorem dts_sub {o i : Expr} {to ti : TE} {mo mi : DTE} {gs : TGs} {ts : List Tg} (h : PE X o to → PE X i ti → PG X (.Subscript o i pos) (gSub to ti rSetL)) (ho : ∀ U, DE X { C with U := U } o to mo) (hi : ∀ U, DE X { C with U := U } i ti mi) (hr : DTs X C es gs ts) (hs : (assignEach (.Subscript o i pos :: es) X.env).map (·.2) = assign (.Subscript o i pos) X.env :: (assignEach es X.env).map (·.2) := by rfl) :
    DTs X C (.Subscript o i pos :: es) (gCons (gSub to ti rSetL) gs) (.sub mo mi :: ts) := ⟨pgs_cons (h (ho C.U).pe (hi C.U).pe) hr.pgs hs, sim_tsub (fun U => (ho U).sim) (fun U => (hi U).sim) hr.sim⟩
/-- a, b = x, y: plain local names -/
theorem ds_par2 {i j : Nat} {t1 t2 : Tg} (h : PA X es ta → PS X st (tPar i j ta)) (hp : DPa X C es ta mp) (hs : SimTs C (gCons (gName i) (gCons (gName j) gNil)) [t1, t2]) : DS X C st (tPar i j ta) (mPar mp [t1, t2]) := ⟨h hp.pa, sim_par2 hp.sim hs⟩
theorem ds_par3 {i j l : Nat} {t1 t2 t3 : Tg} (h : PA X es ta → PS X st (tPar3 i j l ta)) (hp : DPa X C es ta mp) (hs : SimTs C (gCons (gName i) (gCons (gName j) (gCons (gName l) gNil))) [t1, t2, t3]) : DS X C st (tPar3 i j l ta) (mPar mp [t1, t2, t3]) := ⟨h hp.pa, sim_par3 hp.sim hs⟩
theorem ds_asgT {tes : List Expr} {k k2 : Nat} {tp tp2 : Pos} {gs : TGs} {ts : List Tg} {n : Nat} (hp : DPa X C es ta mp) (hg : DTs X C tes gs ts) (hc : X.calm = true) (hn2 : n ≤ 100000) (hn : (assignEach tes X.env).length = n := by rfl) (hst : (assignEach tes X.env).findIdx? (·.1) = none := by rfl)
    (hs : swapsWithSole [.Tuple tes k tp] (.Tuple es k2 tp2) pos.line X.env = pure false := by rfl) (hw : swappedStores [.Tuple tes k tp] (.Tuple es k2 tp2) X.env = pure none := by rfl) (h1 : (assignEach [.Tuple tes k tp] X.env).map (·.2) = [assign (.Tuple tes k tp) X.env] := by rfl) {K0 : Fg} (hK0 : X.K = K0 := by rfl) (hK : K0 = C.K := by rfl) :
    DS X C (.Assign [.Tuple tes k tp] (.Tuple es k2 tp2) pos) (tAsg (tTup ta) (gTup K0 n gs)) (mPar3 n mp ts) := by
  subst hK0
  exact (⟨ps_asg (pe_tup hp.pa) (pg_tup hc hg.pgs hn hst) hs hw h1, by rw [hK]; exact sim_asgT hp.sim hg.sim hn2⟩)
end
/-! ### x[i] op= e -/
theorem get_listG {X : Cx} : PGet X (rIxL X.K) := by
  intro pins s σ H x y v u Q I rx ry h
  obtain ⟨p, xs, i, z, rfl, rfl, hq, he, q⟩ := h
  cases rx
  obtain ⟨t, rfl⟩ := ry
  obtain ⟨its, r, pl, hz⟩ := I.list hq
  obtain ⟨j, h1, h2, h3, h4, h5⟩ := atI_get he
  obtain ⟨w, ew, rw'⟩ := r.get h2
  have hl := r.length
  have hn := line63
  have fin : EP X pins σ Q w s := ⟨z, H, I, rw', q⟩
  rcases Int.lt_or_le i 0 with h0 | h0
  · have hj : (i + (its.toArray.size : Int)).toNat = j := by
      rw [seqIndex_neg (by omega) h4] at h1
      rw [List.size_toArray, ← hl]
      exact Option.some.inj h1
    exact wpAny_getItem_list_neg pl.isList (by omega) (by rw [List.size_toArray] <;> omega) (by omega) (by rw [hj]; simpa using ew) fin
  · have hj : i.toNat = j := by
      rw [seqIndex_of h0 h5] at h1
      exact Option.some.inj h1
    exact wpAny_getItem_list pl.isList h0 (by omega) (by rw [hj]; simpa using ew) fin
def mAugS (mo mi me : DTE) (f : D → D → (Res → Prop) → Prop) : DTS := fun D Γ => mo Γ fun ro Γ1 => mi Γ1 fun ri Γ2 => ∃ i ds k x, ro = .pl i ∧ cont Γ2[i]? = some (.lst ds) ∧ ri = .val (.int k) ∧ atI ds k = some x ∧ me Γ2 fun rv Γ3 => ∃ y, rd Γ3 rv = some y ∧ f x y fun z => ∃ d ds3 j, z = .val d ∧ cont Γ3[i]? = some (.lst ds3) ∧ ixN ds3.length k = some j ∧ ∃ Γ4, setC Γ3 i (.lst (ds3.set j d)) = some Γ4 ∧ D.nx Γ4
section
variable {C : Ctx} {to ti te : TE} {mo mi me : DTE}
theorem sim_augS {g : Int → Int → Int} {f : D → D → (Res → Prop) → Prop} (hf : ∀ a b Q, f a b Q → ∃ i j, a = .int i ∧ b = .int j ∧ Q (.val (.int (g i j)))) (ho : SimE C to mo) (hi : SimE C ti mi) (he : SimE C te me) : SimS C (tAugS to ti te (rIxL C.K) (ipI g) rSetL) (mAugS mo mi me f) := fun Γ O σ H D Dd R h L => by
  refine ho Γ O σ H _ _ R h fun ro Γ1 xo H1 R1 e1 q1 => ?_
  refine hi Γ1 O σ H1 _ _ R1.rel q1 fun ri Γ2 xi H2 R2 e2 q2 => ?_
  obtain ⟨i, ds, k, x, rfl, hc, rfl, hx, q2⟩ := q2
  have hs : σ[i]? = some (some xo) := R1.2
  obtain ⟨a, vs, rfl, hl, hr⟩ := (Pend.b2 (r := .pl i) R2.1 hs hc).lst
  obtain rfl := (show B2 C.K O H2 xi (.int k) from .inl R2.2).int
  obtain ⟨v, hv, rv⟩ := hr.atI hx
  refine ⟨a, vs, k, v, rfl, rfl, SqL.of hl, hv, ?_⟩
  refine he Γ2 O σ H2 _ _ R2.1 q2 fun rr Γ3 y H3 R3 e3 q3 => ?_
  obtain ⟨dy, hy, q3⟩ := q3
  obtain ⟨m, n, rfl, rfl, d, ds3, j, hd, hc3, hj, Γ4, hset, q3⟩ := hf x dy _ q3
  cases hd
  obtain rfl := (show B2 C.K O H2 v (.int m) from .inl rv).int
  obtain rfl := (R3.pend.b2 R3.rel hy).int
  refine ⟨m, n, rfl, rfl, ?_⟩
  obtain ⟨a3, vs3, e, hl3, hr3⟩ := (Pend.b2 (r := .pl i) R3.rel hs hc3).lst
  cases e
  obtain ⟨R4, e4⟩ := set_relO (o := .lst (vs3.set j (.int (g m n)))) R3.rel hset hs (.lst (hr3.set (.int _) j))
  exact ⟨a, vs3, k, j, rfl, rfl, hl3, by rw [hr3.length]; exact hj, L.nx Γ4 O σ _ R4 q3⟩
end
section
variable {X : Cx} {C : Ctx} {o i e : Expr} {st : Stmt} {to ti te : TE} {mo mi me : DTE}
theorem ds_augSA (h : PE X o to → PE X i ti → PE X e te → PS X st (tAugS to ti te (rIxL X.K) (ipI fun i j => i + j) rSetL)) (ho : DE X C o to mo) (hi : DE X C i ti mi) (he : DE X C e te me) {K0 : Fg} (hK0 : X.K = K0 := by rfl) (hK : K0 = C.K := by rfl) : DS X C st (tAugS to ti te (rIxL K0) (ipI fun i j => i + j) rSetL) (mAugS mo mi me addI) := by
  subst hK0
  exact (⟨h ho.pe hi.pe he.pe, by
    rw [hK]
    exact sim_augS (fun a b Q h => by
      unfold addI at h
      split at h
      · exact ⟨_, _, rfl, rfl, h⟩
      · exact h.elim) ho.sim hi.sim he.sim⟩)
end
end DL
namespace DL
open PySem L2 PyProof.Rows
/-! ### repr of data with dicts -/
mutual
def plainZ : D → Bool
  | .non => true
  | .bl _ => true
  | .int _ => true
  | .str _ => true
  | .lst ds => plainZs ds
  | .scr ds => plainZs ds
  | .tup ds => plainZs ds
  | .dic kvs => plainZk kvs
  | .dkl kvs => plainZk kvs
  | .dit _ => false
  | .dtl _ => false
  | .pnK _ _ => false
  | .pnT _ _ => false
  | .obj _ _ _ => false
  | .cls _ => false
  | .xcl _ _ => false
def plainZs : List D → Bool
  | [] => true
  | d :: ds => plainZ d && plainZs ds
def plainZk : List (L2.Key × D) → Bool
  | [] => true
  | (_, d) :: ds => plainZ d && plainZk ds
end
/-- a value at this place of the heap prints as the data say -/
structure Told (P : Program) (w : World) (h : Heap) (u : Value) (d : PyData) : Prop where
  rd : ∃ as, Reads h u d as
  rp : ∃ bs, ReadAtMost h d.depth bs ∧ ReprK P w bs h d.depth u d.shown
structure Tolds (P : Program) (w : World) (h : Heap) (us : List Value) (ds : List PyData) : Prop where
  rd : ∃ as, ReadsAll h us ds as
  rp : ∃ bs, ReadAtMost h (PyData.depthAll ds) bs ∧ ReprAllK P w bs h (PyData.depthAll ds) us (PyData.shownAll ds)
section
variable {P : Program} {w : World} {h : Heap}
theorem Tolds.nil : Tolds P w h [] [] := ⟨⟨_, .nil⟩, [], (fun _ z => nomatch z), by rw [PyData.shownAll]; exact .nil⟩
theorem atMost_app {m n : Nat} {b c : List Addr} (x : ReadAtMost h m b) (y : ReadAtMost h n c) : ReadAtMost h (max m n) (b ++ c) := (x.mono (Nat.le_max_left _ _)).append (y.mono (Nat.le_max_right _ _))
theorem Tolds.cons {u : Value} {d : PyData} {us : List Value} {ds : List PyData} (x : Told P w h u d) (y : Tolds P w h us ds) : Tolds P w h (u :: us) (d :: ds) := by
  obtain ⟨⟨a, ra⟩, b, hb, kb⟩ := x
  obtain ⟨⟨a', ra'⟩, b', hb', kb'⟩ := y
  refine ⟨⟨_, .cons ra ra'⟩, b ++ b', by rw [PyData.depthAll]; exact atMost_app hb hb', ?_⟩
  rw [PyData.depthAll, PyData.shownAll]
  exact .cons ((kb.more fun c hc => List.mem_append_left _ hc).level_le (Nat.le_max_left _ _)) (kb'.more_le (fun c hc => List.mem_append_right _ hc) (Nat.le_max_right _ _))
/-- the own address is none of those below -/
theorem apart {a : Addr} {d : PyData} {as bs : List Addr} {n : Nat} (r : Reads h (.ref a) d as) (e : d.depth = n + 1) (hb : ReadAtMost h n bs) : a ∉ bs := not_mem_of_deeper r (by omega) hb
theorem Told.list {a : Addr} {o : Obj} {n : Nat} {us : List Value} {ds : List PyData} (h1 : h.get? a = some o) (h2 : o.cls = .type "list") (h3 : o.data = .seq us.toArray n) (x : Tolds P w h us ds) : Told P w h (.ref a) (.list ds) := by
  obtain ⟨⟨as, ra⟩, b, hb, kb⟩ := x
  have r : Reads h (.ref a) (.list ds) _ := .list h1 h2 h3 (by simpa using ra)
  have ed : (PyData.list ds).depth = PyData.depthAll ds + 1 := by rw [PyData.depth]
  refine ⟨⟨_, r⟩, a :: b, ReadAtMost.cons r (by omega) hb, ?_⟩
  rw [ed, PyData.shown]
  cases us with
  | nil =>
    cases ra
    rw [PyData.shownAll, listText_nil]
    exact ReprK.listEmpty h1 h2 h3
  | cons y us => exact ReprK.list h1 h2 h3 (apart r ed hb) (by simpa using kb.length_eq) fun i y e => kb.item i y (by simpa using e)
theorem Told.tuple {a : Addr} {o : Obj} {n : Nat} {us : List Value} {ds : List PyData} (h1 : h.get? a = some o) (h2 : o.cls = .type "tuple") (h3 : o.data = .seq us.toArray n) (x : Tolds P w h us ds) : Told P w h (.ref a) (.tuple ds) := by
  obtain ⟨⟨as, ra⟩, b, hb, kb⟩ := x
  have r : Reads h (.ref a) (.tuple ds) _ := .tuple h1 h2 h3 (by simpa using ra)
  have ed : (PyData.tuple ds).depth = PyData.depthAll ds + 1 := by rw [PyData.depth]
  refine ⟨⟨_, r⟩, a :: b, ReadAtMost.cons r (by omega) hb, ?_⟩
  rw [ed, PyData.shown]
  exact ReprK.tuple h1 h2 h3 (apart r ed hb) (by simpa using kb)
theorem Told.dict {a : Addr} {o : Obj} {n : Nat} {es : Array DictEntry} {ps : List (PyData × PyData)} (hs : (a == sysModules) = false) (h1 : h.get? a = some o) (h2 : o.cls = .type "dict") (h3 : o.data = .dict es n)
    (x : Tolds P w h (es.toList.map (·.key)) (ps.map (·.1))) (y : Tolds P w h (es.toList.map (·.val)) (ps.map (·.2))) : Told P w h (.ref a) (.dict ps) := by
  obtain ⟨⟨a1, r1⟩, b1, hb1, k1⟩ := x
  obtain ⟨⟨a2, r2⟩, b2, hb2, k2⟩ := y
  have r : Reads h (.ref a) (.dict ps) _ := .dict h1 h2 h3 r1 r2
  have ed : (PyData.dict ps).depth = PyData.depthKv ps + 1 := by rw [PyData.depth]
  have hb : ReadAtMost h (PyData.depthKv ps) (b1 ++ b2) := (hb1.mono (PyData.depthAll_keys_le ps)).append (hb2.mono (PyData.depthAll_vals_le ps))
  refine ⟨⟨_, r⟩, a :: (b1 ++ b2), ReadAtMost.cons r (by omega) hb, ?_⟩
  rw [ed, PyData.shown, PyData.shownKv_eq]
  exact ReprK.dict h1 h2 h3 hs (apart r ed hb) (ReprEntriesK.of_two es.toList _ _ (k1.more_le (fun c hc => List.mem_append_left _ hc) (PyData.depthAll_keys_le ps)) (k2.more_le (fun c hc => List.mem_append_right _ hc) (PyData.depthAll_vals_le ps)))
end
/-! sizes of the parts -/
section
variable {X : Cx} {pins : List (Addr × Obj)} {σ : L2.St} {H : Hp} {s : Shared}
/-- what repr asks of data -/
def okZ (d : D) : Bool := plainZ d && ((toPy d).showable && decide ((toPy d).depth ≤ 50) && decide ((toPy d).shown.length ≤ 1000000))
end
end DL
/-! the data layer, part 13: isinstance, repr, in, enumerate, zip -/
namespace DL
open PySem PySem.Spec PyProof.Rows L2
/-! ### isinstance of a built-in class -/
/-- the datum's type by name; an object has none here -/
def tyN : D → Option String
  | .non => some "NoneType"
  | .bl _ => some "bool"
  | .int _ => some "int"
  | .str _ => some "str"
  | .lst _ => some "list"
  | .scr _ => some "list"
  | .tup _ => some "tuple"
  | .dic _ => some "dict"
  | .dit _ => some "dict"
  | .dkl _ => some "dict"
  | .dtl _ => none
  | .pnK _ _ => none
  | .pnT _ _ => none
  | .obj _ _ _ => none
  | .cls _ => none
  | .xcl _ _ => none
def isTy (T : String) (d : D) : Bool := match tyN d with
  | some t => t == T || (t == "bool" && T == "int")
  | none => false
def tyNames : List String := ["NoneType", "bool", "int", "str", "list", "tuple", "dict"]
theorem kit_names : (tyNames.all fun t => (["bool", "int", "str", "list", "tuple", "dict"] : List String).all fun T => kitB t T == some (t == T || (t == "bool" && T == "int"))) = true := by decide +kernel
theorem kit_name {t T : String} (h1 : t ∈ tyNames) (h2 : T ∈ (["bool", "int", "str", "list", "tuple", "dict"] : List String)) : kitB t T = some (t == T || (t == "bool" && T == "int")) :=
  eq_of_beq (List.all_eq_true.mp (List.all_eq_true.mp kit_names t h1) T h2)
theorem tyx_of {K : Fg} {O : List Addr} {H : Hp} {v : V} {d : D} {t : String} (h : B2 K O H v d) (e : tyN d = some t) : TyX K H v (.type t) ∧ t ∈ tyNames := by
  cases d with
  | non => obtain rfl := h.non; cases e; exact ⟨.base .non, by simp [tyNames]⟩
  | bl b => obtain rfl := h.bl; cases e; exact ⟨.base (.bl b), by simp [tyNames]⟩
  | int b => obtain rfl := h.int; cases e; exact ⟨.base (.int b), by simp [tyNames]⟩
  | str b => obtain rfl := h.str; cases e; exact ⟨.base (.str b), by simp [tyNames]⟩
  | lst ds => obtain ⟨a, vs, rfl, e1, _⟩ := h.lst; cases e; exact ⟨.base (.lst e1), by simp [tyNames]⟩
  | scr ds =>
    obtain ⟨a, vs, rfl, e1, _⟩ := h.scr
    cases e
    refine ⟨?_, by simp [tyNames]⟩
    rcases e1 with (e1 | ⟨o, e1⟩) | ⟨o, its, n, e1, e2, _⟩
    · exact .base (.lst e1)
    · exact .base (.frz e1)
    · exact .kList e1 e2
  | tup ds => obtain ⟨a, vs, rfl, e1, _⟩ := h.tup; cases e; exact ⟨.base (.tup e1), by simp [tyNames]⟩
  | dic ds => obtain ⟨a, vs, rfl, e1, _⟩ := h.dic; cases e; exact ⟨.base (.dK e1), by simp [tyNames]⟩
  | dit ds => obtain ⟨a, vs, rfl, e1, _⟩ := h.dit; cases e; exact ⟨.base (.dT e1), by simp [tyNames]⟩
  | dkl ds =>
    cases e
    rcases h with h | ⟨l, o, rfl, _, h⟩
    · cases h with | dkl h r => exact ⟨.fDict (hide_same _ _ h), by simp [tyNames]⟩
    · cases h
  | dtl ds => cases e
  | pnK _ _ => cases e
  | pnT _ _ => cases e
  | obj c ns ds => cases e
  | cls c => cases e
  | xcl c n => cases e
def mIsi (T : String) (ma : DTE) : DTE := fun Γ Q => ma Γ fun r Γ1 => ∃ d, rd Γ1 r = some d ∧ (tyN d).isSome = true ∧ Q (.val (.bl (isTy T d))) Γ1
section
variable {X : Cx} {C : Ctx} {ta tb : TE} {ma mb : DTE} {a b e : Expr} {pos p p2 : Pos}
theorem sim_isi {T : String} (h2 : T ∈ (["bool", "int", "str", "list", "tuple", "dict"] : List String)) (ha : SimE C ta ma) : SimE C (tCB (rIsi C.K) (tCons ta (tCons (tC (.ty T)) tNil))) (mIsi T ma) := fun Γ O σ H Qd Q R h k => by
  refine ha Γ O σ H _ _ R h fun ra Γ1 x H1 R1 e1 q1 => ?_
  obtain ⟨d, hd, ht, q⟩ := q1
  obtain ⟨t, ht⟩ := Option.isSome_iff_exists.mp ht
  obtain ⟨ty, hm⟩ := tyx_of (R1.pend.b2 R1.rel hd) ht
  refine ⟨x, .ty T, .type t, .type T, isTy T d, rfl, .ty T, ty, ?_, k (.val (.bl (isTy T d))) Γ1 _ H1 ⟨R1.rel, .bl _⟩ (.val e1.1) q⟩
  unfold isTy
  rw [ht]
  exact kit_ty (kit_name hm h2)
theorem de_isi {T : String} {x : Str} (h2 : T ∈ (["bool", "int", "str", "list", "tuple", "dict"] : List String)) (hg : Gl X "isinstance") (hm : X.mg "isinstance" = none) (ha : DE X C a ta ma) (hT : PE X (.Name x p2) (tC (.ty T)))
    (he : starEach [a, .Name x p2] X.env = (false, eval a X.env) :: starEach [.Name x p2] X.env := by rfl) (he2 : starEach [.Name x p2] X.env = (false, eval (.Name x p2) X.env) :: starEach [] X.env := by rfl) (hpl : (backTo pos (starEach [.Name x p2] X.env)).any (·.1) = false := by rfl) {K0 : Fg} (hK0 : X.K = K0 := by rfl) (hK : K0 = C.K := by rfl) :
    DE X C (.Call (.Name "isinstance" p) [a, .Name x p2] [] pos) (tCB (rIsi K0) (tCons ta (tCons (tC (.ty T)) tNil))) (mIsi T ma) := by
  subst hK0
  exact (⟨pe_callB call_isi hg hm (by decide +kernel) (pa_cons ha.pe (pa_cons hT pa_nil he2) he) (he := he) (hpl := hpl), by rw [hK]; exact sim_isi h2 ha.sim⟩)
/-! ### repr -/
def okR (d : D) : Bool := plain d && ((toPy d).showable && decide ((toPy d).depth ≤ 50) && decide ((toPy d).shown.length ≤ 1000000) && !(toPy d).hasDict)
def reprD : List D → (Res → Prop) → Prop
  | [d], Q => (d = .dic [] ∨ okR d = true ∨ okZ d = true) ∧ Q (.val (.str (toPy d).shown))
  | _, _ => False
/-! ### in, not in -/
def inD : D → D → (Res → Prop) → Prop
  | x, .lst ds, Q => okE x = true ∧ okE (.lst ds) = true ∧ Q (.val (.bl (ds.any fun z => eqv z x)))
  | x, .tup ds, Q => ∃ i ns, x = .int i ∧ ints? ds = some ns ∧ Q (.val (.bl (decide (i ∈ ns))))
  | .str c, .str z, Q => ∃ k, c = ⟨#[k]⟩ ∧ Q (.val (.bl (decide (k ∈ z.cps.toList))))
  | _, _, _ => False
def uIn (K : Fg) : R2 := fun x y H Q => rInD K x y H Q ∨ (rIn K false x y H Q ∨ ∃ (c : Nat) (z : Str), x = .str ⟨#[c]⟩ ∧ y = .str z ∧ Q (.bl (decide (c ∈ z.cps.toList))) H)
theorem op_uIn (hu : X.A.units + 65 < cLine) : OpR X (compareOp .In) (uIn X.K) := (op_inD hu).or (op_in_seq.or op_in_sign)
theorem inV_ints {i : Int} : ∀ ns : List Int, inV (.int i) (ns.map V.int) = decide (i ∈ ns)
  | [] => rfl
  | n :: ns => by
    have ih := inV_ints (i := i) ns
    unfold inV at ih ⊢
    rw [List.map_cons, List.any_cons, ih]
    by_cases h : n = i
    · subst h; simp [eqV]
    · have h' : ¬ i = n := fun z => h z.symm
      simp [eqV, h, h']
theorem flat_ints (ns : List Int) : (ns.map V.int).all flatV = true := by
  induction ns with
  | nil => rfl
  | cons n ns ih => rw [List.map_cons, List.all_cons, ih]; rfl
theorem toPys_any (x : D) : ∀ ds : List D, (toPys ds).any (fun z => PyData.eqv z (toPy x)) = ds.any fun z => eqv z x
  | [] => by rw [toPys]; rfl
  | d :: ds => by rw [toPys, List.any_cons, List.any_cons, toPys_any x ds]; rfl
theorem sim_in {K : Fg} : SimR2 K (uIn K) inD := fun O H x y a b Qd Q h1 h2 q k => by
  unfold inD at q
  split at q
  · rename_i ds
    obtain ⟨q1, q2, q⟩ := q
    unfold okE at q1 q2
    rw [Bool.and_eq_true] at q1 q2
    have d2 := h2.dp q2.1
    have s2 := q2.2
    rw [toPy] at d2 s2
    exact .inl ⟨_, _, h1.dp q1.1, d2, q1.2, s2, k.val _ _ (.bl _) (by rw [toPys_any]; exact q)⟩
  · obtain ⟨i, ns, rfl, e, q⟩ := q
    obtain rfl := ints?_eq e
    obtain rfl := h1.int
    obtain ⟨p, vs, rfl, e, r⟩ := h2.tup
    obtain rfl := r.ints
    refine .inr (.inl ⟨p, _, rfl, .inr (SqT.of e), rfl, flat_ints ns, ?_⟩)
    exact k.val _ _ (.bl _) (by rw [if_neg (by decide), inV_ints]; exact q)
  · obtain ⟨c, rfl, q⟩ := q
    obtain rfl := h1.str
    obtain rfl := h2.str
    exact .inr (.inr ⟨c, _, rfl, rfl, k.val _ _ (.bl _) q⟩)
  · exact q.elim
theorem de_in (hu : X.A.units + 65 < cLine) (ha : DE X C a ta ma) (hb : DE X C b tb mb) (hm : behindInMarks .In b = false) {K0 : Fg} (hK0 : X.K = K0 := by rfl) (hK : K0 = C.K := by rfl) : DE X C (.Compare a [.In] [b] pos) (tOp (uIn K0) ta tb) (mOp inD ma mb) := by
  subst hK0
  exact (de_cmp (op_uIn hu) (by rw [hK]; exact sim_in) ha hb hm)
end
/-! ### enumerate, zip -/
def enumD : Nat → List D → List D
  | _, [] => []
  | k, d :: ds => .tup [.int k, d] :: enumD (k + 1) ds
theorem enumD_len : ∀ (k : Nat) (ds : List D), (enumD k ds).length = ds.length
  | _, [] => rfl
  | k, d :: ds => by unfold enumD; rw [List.length_cons, List.length_cons, enumD_len (k + 1) ds]
theorem enumD_get : ∀ (k : Nat) (ds : List D) (i : Nat) (d : D), ds[i]? = some d → (enumD k ds)[i]? = some (.tup [.int ((k + i : Nat) : Int), d])
  | _, [], _, _, h => by cases h
  | k, d :: ds, 0, d', h => by cases h; rfl
  | k, d :: ds, i + 1, d', h => by
    have := enumD_get (k + 1) ds i d' h
    rw [show k + (i + 1) = k + 1 + i by omega]
    exact this
theorem itd_enum {K : Fg} {a : Addr} {ds : List D} : ItD K (Ite K a) ds.length (fun O H => B2 K O H (.ref a) (.lst ds)) (enumD 0 ds) where
  len := enumD_len 0 ds
  go := fun i O H h hi => by
    obtain ⟨a', vs, e, h1, r⟩ := h.lst
    cases e
    have : i < vs.length := by rw [r.length]; exact hi
    exact ⟨vs, vs[i], SqL.of h1, by simp [this]⟩
  stop := fun O H h => by
    obtain ⟨a', vs, e, h1, r⟩ := h.lst
    cases e
    exact ⟨vs, SqL.of h1, by rw [r.length]; exact Nat.le_refl _⟩
  yld := fun i O H x H' _ h hi y => by
    obtain ⟨a', vs, e, h1, r⟩ := h.lst
    cases e
    obtain ⟨T, x', rfl, hT, rfl, hy⟩ := y
    obtain ⟨d, hd, hr⟩ := r.getV (hy vs (SqL.of h1))
    refine ⟨_, enumD_get 0 ds i d hd, .inr ⟨T, _, _, rfl, hT, rfl, .cons ?_ (.cons hr .nil), rfl⟩⟩
    rw [Nat.zero_add]
    exact .int _
/-! ### enumerate(tuple) -/
set_option maxHeartbeats 1000000 in
theorem meets_enumerate_new1 {v : Value} {o : Obj} {H : Heap → Prop} (B : Begins v o H) :
    Meets (Builtin.«enumerate.__new__» ⟨[.type "enumerate", v], []⟩) (fun _ R s => H s.heap ∧
      R (.ok (.ret (.ref (s.heap.push o).objs.size))) { s with heap := (s.heap.push o).push { cls := .type "enumerate", data := .fields #[.none, .bool false, .ref s.heap.objs.size, rawInt 0, .none, .none] } }) :=
  .of_wp fun prog w A R s h => by
    obtain ⟨hp, g, d, tk, os⟩ := s; obtain ⟨h1, h⟩ := h
    have hsub := sub_enumerate
    have q1 : ∀ {A' : Around} {E : Value → Shared → Prop} {Q : Value → Shared → Prop}, Q (.ref hp.objs.size) ⟨hp.push o, g, d, tk, os⟩ → wpAny (model prog w) A' (pyIter v) Q E ⟨hp, g, d, tk, os⟩ :=
      fun q => B.iter prog w _ _ ⟨hp, g, d, tk, os⟩ _ h1 q
    wp_walk using q1
    refine wpAny_stack_any fun st => wpAny_pure ?_
    split
    · rename_i c _ _ _ _ _
      cases (c == Value.type "enumerate")
      · wp_walk using q1
        exact ⟨_, rfl, h⟩
      · wp_walk using q1
        exact ⟨_, rfl, h⟩
    · wp_walk using q1
      exact ⟨_, rfl, h⟩
theorem enum_begins1 {prog : Program} {w : World} {A : Around} {E : Value → Shared → Prop} {s : Shared} {v : Value} {o : Obj} {H : Heap → Prop} {Q : Value → Shared → Prop} (B : Begins v o H) (h1 : H s.heap)
    (h : ∀ h', IsEnum h' (s.heap.objs.size + 1) s.heap.objs.size 0 .none → h'.get? s.heap.objs.size = some o → h'.objs.size = s.heap.objs.size + 2 →
      (∀ b o, s.heap.get? b = some o → h'.get? b = some o) → Q (.ref (s.heap.objs.size + 1)) { s with heap := h' }) :
    wpAny (model prog w) A (call (.type "enumerate") [v]) Q E s := by
  refine callType_new F.called_enumerate (by decide) (F.typeCall_enumerate_1 _) (F.newCall_enumerate_1 _) (fun obj => F.args_object_init_2 obj _) F.entry_enumerate_new
    (meets_enumerate_new1 B) ⟨h1, ?_⟩
  have hz : (s.heap.push o).objs.size = s.heap.objs.size + 1 := Heap.size_push ..
  show _ ∧ _
  rw [hz]
  have he : IsEnum ((s.heap.push o).push { cls := .type "enumerate", data := .fields #[.none, .bool false, .ref s.heap.objs.size, rawInt 0, .none, .none] }) (s.heap.objs.size + 1) s.heap.objs.size 0 .none := by
    have := Heap.get?_push_size (s.heap.push o) (o := { cls := .type "enumerate", data := .fields #[.none, .bool false, .ref s.heap.objs.size, rawInt 0, .none, .none] }) rfl
    rw [hz] at this; exact this
  refine ⟨⟨_, he, rfl⟩, h _ he (Heap.get?_push_of_some _ (Heap.get?_push_size _ B.free)) (by rw [Heap.size_push, hz]) fun b o x => Heap.get?_push_of_some _ (Heap.get?_push_of_some _ x)⟩
/-- the tuple at a, each item in a new pair -/
def IteT (K : Fg) (a : Addr) : It :=
  ⟨fun i H => ∃ (xs : List V) (x : V), SqT K H a xs ∧ xs[i]? = some x, fun i H v H' => ∃ T x, v = .ref T ∧ H T = none ∧ H' = upd H T (.tup [.int (i : Nat), x]) ∧ ∀ xs, SqT K H a xs → xs[i]? = some x, fun i H => ∃ xs : List V, SqT K H a xs ∧ xs.length ≤ i⟩
theorem turn_enumT {P : Program} {w : World} {K : Fg} {elts : List Expr} {kk : Nat} {tpos : Pos} (a e it : Addr) :
    Turn P w K (.Tuple elts kk tpos) (IteT K a) [e, it] e (fun i h => (∃ old, IsEnum h e it ((i : Nat) : Int) old) ∧ h.IsTupleIter it a i ∧ e ≠ it) where
  mem := by simp
  obj := fun i h st b hb => by
    obtain ⟨⟨old, he⟩, ⟨o, ho, hc, hd⟩, _⟩ := st
    have e' : b = e ∨ b = it := by simpa using hb
    rcases e' with z | z
    · rw [z]; exact ⟨_, he, fun v q => nomatch q⟩
    · rw [z]; exact ⟨o, ho, fun v q => by rw [hd] at q; cases q⟩
  keep := fun i h h' st k => let ⟨⟨old, he⟩, hi, hne⟩ := st; ⟨⟨old, k e (by simp) _ he⟩, hi.at fun o q => k it (by simp) o q, hne⟩
  item := by
    intro X hP hw hK hc i pins s σ H E I hf st hg
    subst hP hw hK
    obtain ⟨⟨old, he⟩, hit, hne⟩ := st
    obtain ⟨xs, x, hq, hx⟩ := hg
    obtain ⟨its, rv, p, hz⟩ := I.tuple hq
    obtain ⟨u, hu, ru⟩ := rv.get hx
    have hel : e < s.heap.objs.size := Heap.lt_size he
    have hil : it < s.heap.objs.size := by obtain ⟨_, q, _⟩ := hit; exact Heap.lt_size q
    have hai : a ≠ it := fun z => by
      obtain ⟨o, ho, hc', _⟩ := hit
      obtain ⟨o2, ho2, hc2, _⟩ := (show s.heap.IsTuple a its.toArray from p)
      rw [z] at ho2
      rw [ho] at ho2
      cases ho2
      rw [hc'] at hc2
      exact absurd hc2 (by decide)
    have hae : e ≠ a := fun z => by
      obtain ⟨o2, ho2, hc2, _⟩ := (show s.heap.IsTuple a its.toArray from p)
      rw [← z] at ho2
      have he' := he
      unfold IsEnum at he'
      rw [he'] at ho2
      cases ho2
      exact absurd hc2 (show ¬ Value.type "enumerate" = Value.type "tuple" by decide)
    have hlt : i < its.toArray.size := by
      have := List.getElem?_eq_some_iff.mp hu
      obtain ⟨h, _⟩ := this
      simpa using h
    refine wpAny_pyNext_enum_itemC (Draws.tuple (A := X.A.in1) (show X.A.in1.handled = none from I.ok.hd hc) it a hai its.toArray) he ⟨hit, p⟩ hlt hne (by simp [hne, hae]) fun x' h' tk hx' ho hit' hT hsz hk => ?_
    obtain ⟨hit', ht'⟩ := hit'
    have ex : x' = u := by
      have h1 : its[i]? = some x' := by simpa using hx'
      rw [h1] at hu
      exact Option.some.inj hu
    subst ex
    refine ⟨_, rfl, wpAny_letOwnedTupleGo_enum (s := { s with heap := h', toks := tk + 1 }) ho fun h'' he' sb => ?_⟩
    have hT2 : h''.get? s.heap.objs.size = some { cls := .type "tuple", data := .seq #[.int i tk, x'] } := (sb.2 _ (Nat.ne_of_gt hel)).trans hT
    have new : ObjOk X.prog X.w (upd H s.heap.objs.size (.tup [.int (i : Nat), x])) h'' s.heap.objs.size (.tup [.int (i : Nat), x]) :=
      ⟨by show 2 ≤ sizeLine; decide, [.int i tk, x'], .cons ⟨_, rfl⟩ (.cons ru .nil), ⟨_, hT2, rfl, _, rfl⟩⟩
    have I1 : Inv X pins σ (upd H s.heap.objs.size (.tup [.int (i : Nat), x])) { s with heap := h'', toks := tk + 1 } :=
      I.turnedNew (ch := [e, it]) (fun b ob hb q => (sb.2 b (fun z => hb (by simp [z]))).trans (hk b ob (fun z => hb (by simp [z])) (fun z => hb (by simp [z])) q)) hf (Nat.le_refl _) new
    refine ⟨.ref s.heap.objs.size, _, I1, rfl, ⟨_, x, rfl, I.hok.fresh (Nat.le_refl _), rfl, fun ys hy => by rw [I.tuple_inj hy hq]; exact hx⟩, ⟨⟨x', ?_⟩, hit'.at fun o q => (sb.2 it (Ne.symm hne)).trans q, hne⟩, fun b hb => ?_⟩
    · have e1 : ((i + 1 : Nat) : Int) = (i : Int) + 1 := by omega
      rw [e1]; exact he'
    · have hb' : b < s.heap.objs.size := by
        have e' : b = e ∨ b = it := by simpa using hb
        rcases e' with z | z
        · rw [z]; exact hel
        · rw [z]; exact hil
      rw [upd_ne (Nat.ne_of_lt hb')]
      exact (hf b hb).1
  done := by
    intro X hP hw hK hc i pins s σ H E I hf st hg
    subst hP hw hK
    obtain ⟨⟨old, he⟩, hit, hne⟩ := st
    obtain ⟨xs, hq, hx⟩ := hg
    obtain ⟨its, rv, p, hz⟩ := I.tuple hq
    have hai : a ≠ it := fun z => by
      obtain ⟨o, ho, hc', _⟩ := hit
      obtain ⟨o2, ho2, hc2, _⟩ := (show s.heap.IsTuple a its.toArray from p)
      rw [z] at ho2
      rw [ho] at ho2
      cases ho2
      rw [hc'] at hc2
      exact absurd hc2 (by decide)
    obtain ⟨f0, f1, f2, f3, f4, f5⟩ := hf it (by simp)
    have hl := rv.length
    have h0 := I.ok.hd hc
    have hT : s.TypeIs (.ref e) "enumerate" := ⟨_, he, rfl⟩
    unfold pyNext
    refine wpAny_bind (wpAny_attempt (wpAny_callSpecial?_slot (name := Str.ofString "__next__") hT F.slot_enumerate_next
      (wpAny_call_entry F.slot_enumerate_next hT F.entry_enumerate_next ?_ (F.args_enumerate_next_1 _))))
    show wpAny _ _ (field (.ref e) 2 >>= _) _ _ _
    refine wpAny_bind (wpAny_field he rfl (x := .ref it) rfl ?_)
    refine wpAny_bind (wpAny_nextOf_tuple_end (A := X.A.in1) (show X.A.in1.handled = none from h0) hit p (by simp; omega) fun h' x eb hx' => ?_)
    obtain ⟨o, ho, hc⟩ := hx'
    refine wpAny_bind (wpAny_isInstance (T := "StopIteration") (b := true) ⟨o, ho, hc⟩ isSubtype_stop ?_)
    exact wpAny_pure ⟨rfl, I.turned (t' := s.toks) (fun b o hb q => eb b o hb q) f0 f1 f3 f4 f5⟩
  self := fun A i s Q E st h => let ⟨⟨_, he⟩, _⟩ := st; wpAny_pyIter_enum he h
def iEnumE (K : Fg) (ta : TA) : TI := fun σ H R => ta σ H fun vs H1 => ∃ a, vs = [.ref a] ∧ ((∃ xs, SqL K H1 a xs ∧ R (Ite K a) H1) ∨ ∃ xs, SqT K H1 a xs ∧ R (IteT K a) H1)
theorem pi_enumE {X : Cx} {e : Expr} {ta : TA} {p pos tpos : Pos} {elts : List Expr} {kk : Nat} (hg : Gl X "enumerate") (hm : X.mg "enumerate" = none) (ha : PA X [e] ta) (hs : starEach [e] X.env = [(false, eval e X.env)] := by rfl) :
    PI X (.Tuple elts kk tpos) (.Call (.Name "enumerate" p) [e] [] pos) (iEnumE X.K ta) := by
  refine ⟨fun pins s σ H R I h => ?_⟩
  refine Call_ (ld_blt I hg hm boot_enumerate (PyProof.Rows.callWith_type1 (thn (ha.run pos pins s σ H _ I h) fun us s1 ⟨vs, H1, I1, r1, q1⟩ => ?_) hs rfl))
  obtain ⟨a, ex, q⟩ := q1
  subst ex
  cases r1 with
  | cons r rr =>
    cases rr
    cases r
    have fpo : ∀ b ∈ [s1.heap.objs.size + 1, s1.heap.objs.size], s1.heap.objs.size ≤ b := fun b hb => by
      have e' : b = s1.heap.objs.size + 1 ∨ b = s1.heap.objs.size := by simpa using hb
      rcases e' with z | z
      · rw [z]; exact Nat.le_add_right _ _
      · rw [z]; exact Nat.le_refl _
    rcases q with ⟨xs, hq, q⟩ | ⟨xs, hq, q⟩
    · obtain ⟨its, rv, p', hz⟩ := I1.list hq
      refine call_enumerate_list p'.isList fun h' he hit hsz hk => wpAny_pyIter_enum he ?_
      have I2 : Inv X pins σ H1 { s1 with heap := h' } := I1.kept (t' := s1.toks) hk
      exact ⟨s1.heap.objs.size + 1, [s1.heap.objs.size + 1, s1.heap.objs.size], _, _, H1, rfl, I2, turn_enum a (s1.heap.objs.size + 1) s1.heap.objs.size, ⟨⟨.none, he⟩, hit, Nat.succ_ne_self _⟩, fun b hb => I1.fpOk (fpo b hb) (I1.hok.fresh (fpo b hb)), q⟩
    · obtain ⟨its, rv, p', hz⟩ := I1.tuple hq
      refine enum_begins1 (begins_tuple a its.toArray) p' fun h' he hit hsz hk => wpAny_pyIter_enum he ?_
      have I2 : Inv X pins σ H1 { s1 with heap := h' } := I1.kept (t' := s1.toks) hk
      exact ⟨s1.heap.objs.size + 1, [s1.heap.objs.size + 1, s1.heap.objs.size], _, _, H1, rfl, I2, turn_enumT a (s1.heap.objs.size + 1) s1.heap.objs.size, ⟨⟨.none, he⟩, ⟨_, hit, rfl, rfl⟩, Nat.succ_ne_self _⟩, fun b hb => I1.fpOk (fpo b hb) (I1.hok.fresh (fpo b hb)), q⟩
theorem itd_enumT {K : Fg} {a : Addr} {ds : List D} : ItD K (IteT K a) ds.length (fun O H => B2 K O H (.ref a) (.tup ds)) (enumD 0 ds) where
  len := enumD_len 0 ds
  go := fun i O H h hi => by
    obtain ⟨a', vs, e, h1, r⟩ := h.tup
    cases e
    have : i < vs.length := by rw [r.length]; exact hi
    exact ⟨vs, vs[i], SqT.of h1, by simp [this]⟩
  stop := fun O H h => by
    obtain ⟨a', vs, e, h1, r⟩ := h.tup
    cases e
    exact ⟨vs, SqT.of h1, by rw [r.length]; exact Nat.le_refl _⟩
  yld := fun i O H x H' _ h hi y => by
    obtain ⟨a', vs, e, h1, r⟩ := h.tup
    cases e
    obtain ⟨T, x', rfl, hT, rfl, hy⟩ := y
    obtain ⟨d, hd, hr⟩ := r.getV (hy vs (SqT.of h1))
    refine ⟨_, enumD_get 0 ds i d hd, .inr ⟨T, _, _, rfl, hT, rfl, .cons ?_ (.cons hr .nil), rfl⟩⟩
    rw [Nat.zero_add]
    exact .int _
def mEnum (ma : DTE) : DTI := fun Γ Q => ma Γ fun r Γ1 => ∃ d ds, rd Γ1 r = some d ∧ itemsOf d = some ds ∧ Q (srcOf d r) (enumD 0 ds) Γ1
theorem di_enum {X : Cx} {C : Ctx} {ta : TE} {ma : DTE} {a : Expr} {elts : List Expr} {kk : Nat} {p pos tpos : Pos} (hg : Gl X "enumerate") (hm : X.mg "enumerate" = none) (ha : DE X C a ta ma) (hs : starEach [a] X.env = (false, eval a X.env) :: starEach [] X.env := by rfl) (hs2 : starEach [a] X.env = [(false, eval a X.env)] := by rfl) {K0 : Fg} (hK0 : X.K = K0 := by rfl) (hK : K0 = C.K := by rfl) :
    DI X C (.Tuple elts kk tpos) (.Call (.Name "enumerate" p) [a] [] pos) (iEnumE K0 (tCons ta tNil)) (mEnum ma) := by
  subst hK0
  exact (⟨pi_enumE hg hm (pa_cons ha.pe pa_nil hs) hs2, fun Γ O σ H Qd R hR h k => ha.sim Γ O σ H _ _ hR h fun r Γ1 v H1 R1 e1 q1 => by
    obtain ⟨d, ds, hd, hi, q⟩ := q1
    unfold itemsOf at hi
    split at hi
    · cases hi
      obtain ⟨a, vs, rfl, e, _⟩ := (R1.pend.b2 R1.rel hd).lst
      refine ⟨a, rfl, .inl ⟨vs, SqL.of e, ?_⟩⟩
      rw [hK]
      exact k _ _ Γ1 _ H1 _ _ R1.rel e1.1 itd_enum (src_of R1 hd fun _ _ h => h) q
    · cases hi
      obtain ⟨a, vs, rfl, e, _⟩ := (R1.pend.b2 R1.rel hd).tup
      refine ⟨a, rfl, .inr ⟨vs, SqT.of e, ?_⟩⟩
      rw [hK]
      exact k _ _ Γ1 _ H1 _ _ R1.rel e1.1 itd_enumT (src_of R1 hd fun _ _ h => h) q
    · cases hi⟩)
end DL
/-! the data layer, part 14: short words for the printed derivations -/
namespace DL
open PySem PySem.Spec PyProof.Rows L2
theorem room100 {k : Nat} {A : Around} (r : Room k A) : A.units + 100 < cLine := by have := r.un; omega
theorem room65 {k : Nat} {A : Around} (r : Room k A) : A.units + 65 < cLine := by have := r.un; omega
structure DF (X : Cx) (C : Ctx) (ifs : List Expr) (t : TT) (m : DTT) : Prop where
  pts : PTs X ifs t
  sim : SimT C t m
section
variable {X : Cx} {C : Ctx} {elt tg iter c : Expr} {pos : Pos} {wi : TI} {g : TG} {tt : TT} {te : TE} {mi : DTI} {mg : DTG} {mt : DTT} {me : DTE} {ifs : List Expr} {scope : Scope} {own : List (Str × Nat)}
theorem df_nil : DF X C [] tYes mYes := ⟨pts_nil, sim_yes⟩
theorem df_one {t : TT} {m : DTT} (h : DT X C c t m) : DF X C [c] t m := ⟨pts_one h.pt, h.sim⟩
/-- the parts of a comprehension -/
structure DL1 (X : Cx) (C : Ctx) (elt tg iter : Expr) (ifs : List Expr) (scope : Scope) (own : List (Str × Nat)) (wi : TI) (g : TG) (tt : TT) (te : TE) (mi : DTI) (mg : DTG) (mt : DTT) (me : DTE) : Prop where
  calm : X.calm = true
  nd : X.N.Nodup
  hi : DI X C tg iter wi mi
  ok : BlkOk X.N X.env.scope scope own
  hg : ∀ (U : List (Addr × HO)) (s : Shared) (H : Hp) (A : Addr) (cl : List (Str × Addr)) (fp : List Addr), DG (X.blk s H scope (compEnvC scope cl A X.env) fp) { C with U := U } tg g mg
  hgo : OwnG g (own.map (·.2))
  hgm : ∀ (v : V) (σ : L2.St) (H : Hp) (Q Q' : L2.St → Hp → Prop), (∀ σ H, Q σ H → Q' σ H) → g v σ H Q → g v σ H Q'
  ht : ∀ (U : List (Addr × HO)) (s : Shared) (H : Hp) (A : Addr) (cl : List (Str × Addr)) (fp : List Addr), DF (X.blk s H scope (compEnvC scope cl A X.env) fp) { C with U := U } ifs tt mt
  he : ∀ (U : List (Addr × HO)) (s : Shared) (H : Hp) (A : Addr) (cl : List (Str × Addr)) (fp : List Addr), DE (X.blk s H scope (compEnvC scope cl A X.env) fp) { C with U := U } elt te me
theorem DL1.sim (h : DL1 X C elt tg iter ifs scope own wi g tt te mi mg mt me) (s : Shared) : SimE C (tLc wi g tt te (own.map (·.2))) (mComp mi mg mt me (own.map (·.2))) :=
  sim_comp h.hi.sim (fun U => (h.hg U s (fun _ => none) 0 [] []).sim) h.hgo (fun U => (h.ht U s (fun _ => none) 0 [] []).sim) (fun U => (h.he U s (fun _ => none) 0 [] []).sim) h.hgm
theorem de_comp (h : DL1 X C elt tg iter ifs scope own wi g tt te mi mg mt me) (hs : ∀ x, foldedSetIterable iter X.env x = pure x := by intro _; rfl) :
    DE X C (.ListComp elt [⟨tg, iter, ifs, 0⟩] scope pos) (tLc wi g tt te (own.map (·.2))) (mComp mi mg mt me (own.map (·.2))) :=
  ⟨pe_lc h.calm h.nd h.hi.pi h.ok (fun s H A cl fp => (h.hg C.U s H A cl fp).pg) (fun s H A cl fp => (h.ht C.U s H A cl fp).pts) (fun s H A cl fp => (h.he C.U s H A cl fp).pe) hs, h.sim X.s_0⟩
theorem ps_comp {i : Nat} {y : Str} {py : Pos} {spos : Pos} (h : DL1 X C elt tg iter ifs scope own wi g tt te mi mg mt me) (hy : X.N[i]? = some y) (hyl : X.env.scope.names.lookup y = some .local)
    (hsw : swapsWith (.ListComp elt [⟨tg, iter, ifs, 0⟩] scope pos) (some (.Name y py)) spos.line X.env = pure true) (hs : ∀ x, foldedSetIterable iter X.env x = pure x := by intro _; rfl) :
    PS X (.Assign [.Name y py] (.ListComp elt [⟨tg, iter, ifs, 0⟩] scope pos) spos) (tAsg (tLc wi g tt te (own.map (·.2))) (gName i)) :=
  ps_setLc h.calm h.nd hy hyl hsw h.hi.pi h.ok (fun s H A cl fp => (h.hg C.U s H A cl fp).pg) (fun s H A cl fp => (h.ht C.U s H A cl fp).pts) (fun s H A cl fp => (h.he C.U s H A cl fp).pe) hs
/-- name = [..], the name a plain local -/
theorem ds_setC {i : Nat} {y : Str} {py : Pos} {spos : Pos} (h : DL1 X C elt tg iter ifs scope own wi g tt te mi mg mt me) (hy : X.N[i]? = some y) (hyl : X.env.scope.names.lookup y = some .local)
    (hsw : swapsWith (.ListComp elt [⟨tg, iter, ifs, 0⟩] scope pos) (some (.Name y py)) spos.line X.env = pure true) (hs : ∀ x, foldedSetIterable iter X.env x = pure x := by intro _; rfl) :
    DS X C (.Assign [.Name y py] (.ListComp elt [⟨tg, iter, ifs, 0⟩] scope pos) spos) (tAsg (tLc wi g tt te (own.map (·.2))) (gName i)) (mSet i (mComp mi mg mt me (own.map (·.2)))) := ds_setS (ps_comp h hy hyl hsw hs) (h.sim X.s_0)
theorem ds_setCO {i : Nat} {y : Str} {py : Pos} {spos : Pos} (h : DL1 X C elt tg iter ifs scope own wi g tt te mi mg mt me) (hy : X.N[i]? = some y) (hyl : X.env.scope.names.lookup y = some .local)
    (hsw : swapsWith (.ListComp elt [⟨tg, iter, ifs, 0⟩] scope pos) (some (.Name y py)) spos.line X.env = pure true) (hs : ∀ x, foldedSetIterable iter X.env x = pure x := by intro _; rfl) :
    DS X C (.Assign [.Name y py] (.ListComp elt [⟨tg, iter, ifs, 0⟩] scope pos) spos) (tAsg (tLc wi g tt te (own.map (·.2))) (gName i)) (mSetO i (mComp mi mg mt me (own.map (·.2)))) := ds_setSO (ps_comp h hy hyl hsw hs) (h.sim X.s_0)
end
/-! comparisons in a chain -/
section
variable {X : Cx} {C : Ctx} {ta tb tc : TE} {ma mb mc : DTE} {a b c : Expr} {pos : Pos}
def mChain (f f' : Int → Int → Bool) (ma mb mc : DTE) : DTE := fun Γ Q => ma Γ fun ra Γ1 => mb Γ1 fun rb Γ2 => ∃ i j, ra = .val (.int i) ∧ rb = .val (.int j) ∧
  if f i j = true then mc Γ2 fun rc Γ3 => ∃ k, rc = .val (.int k) ∧ Q (.val (.bl (f' j k))) Γ3 else Q (.val (.bl false)) Γ2
theorem sim_chain {f f' : Int → Int → Bool} (ha : SimE C ta ma) (hb : SimE C tb mb) (hc : SimE C tc mc) : SimE C (tChain (rI0 fun i j => .bl (f i j)) (rI0 fun i j => .bl (f' i j)) ta tb tc) (mChain f f' ma mb mc) := fun Γ O σ H Qd Q R h k => by
  refine ha Γ O σ H _ _ R h fun ra Γ1 x H1 R1 e1 q1 => ?_
  refine hb Γ1 O σ H1 _ _ R1.rel q1 fun rb Γ2 y H2 R2 e2 q2 => ?_
  obtain ⟨i, j, rfl, rfl, q⟩ := q2
  obtain rfl := (show B2 C.K O H1 x (.int i) from .inl R1.2).int
  obtain rfl := (show B2 C.K O H2 y (.int j) from .inl R2.2).int
  refine ⟨i, j, rfl, rfl, f i j, rfl, ?_⟩
  cases hf : f i j with
  | true =>
    rw [hf] at q
    refine hc Γ2 O σ H2 _ _ R2.rel q fun rc Γ3 z H3 R3 e3 q3 => ?_
    obtain ⟨n, rfl, q3⟩ := q3
    obtain rfl := (show B2 C.K O H3 z (.int n) from .inl R3.2).int
    exact ⟨j, n, rfl, rfl, k (.val (.bl (f' j n))) Γ3 _ H3 ⟨R3.rel, .bl _⟩ (.val (L2.Same.trans e1.1 (L2.Same.trans e2.1 e3.1))) q3⟩
  | false =>
    rw [hf] at q
    exact k (.val (.bl false)) Γ2 _ H2 ⟨R2.rel, .bl _⟩ (.val (L2.Same.trans e1.1 e2.1)) q
end
section
variable {X : Cx} {C : Ctx} {a b c : Expr} {ta tb tc : TE} {ma mb mc : DTE} {op op' : CmpOp} {pos : Pos} {r r' : R2} {f f' : Int → Int → Bool}
theorem de_chain2 (h : ∀ {ta tb tc : TE}, PE X a ta → PE X b tb → PE X c tc → PE X (.Compare a [op, op'] [b, c] pos) (tChain (rI0 fun i j => .bl (f i j)) (rI0 fun i j => .bl (f' i j)) ta tb tc)) (ha : DE X C a ta ma) (hb : DE X C b tb mb) (hc : DE X C c tc mc) : DE X C (.Compare a [op, op'] [b, c] pos) (tChain (rI0 fun i j => .bl (f i j)) (rI0 fun i j => .bl (f' i j)) ta tb tc) (mChain f f' ma mb mc) :=
  ⟨h ha.pe hb.pe hc.pe, sim_chain ha.sim hb.sim hc.sim⟩
end
section
variable {P : Program} {w : World} {K : Fg} {mg : Str → Option Value} {base : Heap} {k : Nat} {f : Addr} {fd : FuncData} {ps : List Str}
theorem fn_dm {x qual : Str} {st : Stmt} {N : List Str} {ms : List Md} {sd : DSp} {m : DTS} (F : Fun K x qual st f fd) (S : FnScope N ps (defScope st)) (hl : ms.length = ps.length)
    (hv : ∀ ds Qd Ed, ds.length = ms.length → sd ds Qd Ed → m (endsD ms Qd) (startD N ms ds))
    (body : ∀ (cdv : Value) (A : Around) (outer : List PySem.Env) (s : Shared) (H0 : Hp) (vs : List V) (E : XK) (O : List Addr) (H : Hp), (A.deeper (envOfC qual (defScope st) s.heap.objs.size f cdv)).guards = some [] → Room k (A.deeper (envOfC qual (defScope st) s.heap.objs.size f cdv)) →
      ∃ t, DSs (cxOf (L2.CX P w) P w K mg base N qual (defScope st) f cdv A outer s H0 E).nox (ctx0 K O H ms vs) (defBody st) t m) : FnG P w K mg base (k + 1) f fd ps (spD K ms sd) :=
  fn_d F S hl fun cdv A outer s H0 vs E O H hg hr => by
    obtain ⟨t, d⟩ := body cdv A outer s H0 vs E O H hg hr
    exact ⟨t, m, d, hv⟩
end
/-! comparisons as tests, the fragment named from outside -/
section
variable {X : Cx} {C : Ctx} {a b : Expr} {ta tb : TE} {ma mb : DTE} {pos : Pos}
theorem dt_eq (hu : X.A.units + 64 < cLine) (ha : DE X C a ta ma) (hb : DE X C b tb mb) {K0 : Fg} (hK0 : X.K = K0 := by rfl) (hK : K0 = C.K := by rfl) : DT X C (.Compare a [.Eq] [b] pos) (tTest (tOp (rEqD K0) ta tb)) (mTest (mOp eqD ma mb)) := by
  subst hK0; exact dt_cmp (op_eqD hu) (by rw [hK]; exact sim_eq) ha hb (nomark _)
theorem dt_ne (hu : X.A.units + 64 < cLine) (ha : DE X C a ta ma) (hb : DE X C b tb mb) {K0 : Fg} (hK0 : X.K = K0 := by rfl) (hK : K0 = C.K := by rfl) : DT X C (.Compare a [.NotEq] [b] pos) (tTest (tOp (rNeD K0) ta tb)) (mTest (mOp neD ma mb)) := by
  subst hK0; exact dt_cmp (op_neD hu) (by rw [hK]; exact sim_ne) ha hb (nomark _)
theorem dt_in (hu : X.A.units + 65 < cLine) (ha : DE X C a ta ma) (hb : DE X C b tb mb) (hm : behindInMarks .In b = false) {K0 : Fg} (hK0 : X.K = K0 := by rfl) (hK : K0 = C.K := by rfl) : DT X C (.Compare a [.In] [b] pos) (tTest (tOp (uIn K0) ta tb)) (mTest (mOp inD ma mb)) := by
  subst hK0; exact dt_cmp (op_uIn hu) (by rw [hK]; exact sim_in) ha hb hm
end
end DL
/-! the data layer, part 15: words for what is left of a law: plain data, loops by an invariant, comprehensions by a function -/
namespace DL
open PySem L2
/-! ### lists of numbers -/
abbrev iL (l : List Int) : D := .lst (l.map D.int)
theorem toPys_ints : ∀ l : List Int, toPys (l.map D.int) = l.map PyData.int
  | [] => by simp only [List.map_nil, toPys]
  | x :: l => by rw [List.map_cons, toPys, toPys_ints l, toPy, List.map_cons]
theorem plains_ints : ∀ l : List Int, plains (l.map D.int) = true
  | [] => by simp only [List.map_nil, plains]
  | x :: l => by rw [List.map_cons, plains, plains_ints l, plain]; rfl
theorem lay_ints : ∀ l : List Int, PyData.canLayAll0 (l.map PyData.int) = true
  | [] => by simp only [List.map_nil, PyData.canLayAll0]
  | x :: l => by rw [List.map_cons, PyData.canLayAll0, lay_ints l, PyData.canLay0]; rfl
theorem depth_ints : ∀ l : List Int, PyData.depthAll (l.map PyData.int) = 0
  | [] => by simp only [List.map_nil, PyData.depthAll]
  | x :: l => by rw [List.map_cons, PyData.depthAll, depth_ints l, PyData.depth]; rfl
theorem eqvAll_ints : ∀ l m : List Int, PyData.eqvAll (l.map PyData.int) (m.map PyData.int) = decide (l = m)
  | [], [] => by simp [PyData.eqvAll]
  | [], y :: m => by simp [PyData.eqvAll]
  | x :: l, [] => by simp [PyData.eqvAll]
  | x :: l, y :: m => by
    rw [List.map_cons, List.map_cons, PyData.eqvAll, eqvAll_ints l m, PyData.eqv]
    rw [Bool.eq_iff_iff]
    simp
theorem okE_int (i : Int) : okE (.int i) = true := by simp [okE, plain, toPy, SeqAt.shaped, PyData.canLay0, PyData.depth]
theorem okE_bl (i : Bool) : okE (.bl i) = true := by simp [okE, plain, toPy, SeqAt.shaped, PyData.canLay0, PyData.depth]
theorem okE_ints (l : List Int) : okE (.lst (l.map D.int)) = true := by simp [okE, plain, toPy, SeqAt.shaped, PyData.canLay0, PyData.depth, plains_ints, toPys_ints, lay_ints, depth_ints]
theorem okE_tints (l : List Int) : okE (.tup (l.map D.int)) = true := by simp [okE, plain, toPy, SeqAt.shaped, PyData.canLay0, PyData.depth, plains_ints, toPys_ints, lay_ints, depth_ints]
theorem eqv_int (i j : Int) : eqv (.int i) (.int j) = decide (i = j) := by
  rw [eqv, toPy, toPy, PyData.eqv, Bool.eq_iff_iff]; simp
theorem eqv_bl (i j : Bool) : eqv (.bl i) (.bl j) = decide (i = j) := by
  rw [eqv, toPy, toPy, PyData.eqv, Bool.eq_iff_iff]; simp
theorem eqv_ints (l m : List Int) : eqv (.lst (l.map D.int)) (.lst (m.map D.int)) = decide (l = m) := by
  rw [eqv, toPy, toPy, PyData.eqv, toPys_ints, toPys_ints, eqvAll_ints]
theorem eqv_tints (l m : List Int) : eqv (.tup (l.map D.int)) (.tup (m.map D.int)) = decide (l = m) := by
  rw [eqv, toPy, toPy, PyData.eqv, toPys_ints, toPys_ints, eqvAll_ints]
theorem eqv_ssS (a b : Str) : eqv (.str a) (.str b) = (a == b) := by
  rw [eqv, toPy, toPy, PyData.eqv]
/-- l[i] -/
def ig (l : List Int) (i : Int) : Int := l.getD (if 0 ≤ i then i else i + l.length).toNat 0
theorem atI_ints {l : List Int} {i : Int} (h : -(l.length : Int) ≤ i ∧ i < l.length) : atI (l.map D.int) i = some (.int (ig l i)) := by
  unfold atI ixN ig
  rw [List.length_map]
  by_cases h0 : 0 ≤ i
  · rw [if_pos h0, if_pos h0, if_pos h.2, Option.bind_some, List.getElem?_map, List.getElem?_eq_getElem (by omega)]
    simp [List.getD, List.getElem?_eq_getElem (show i.toNat < l.length by omega)]
  · rw [if_neg h0, if_neg h0, if_pos h.1, Option.bind_some, List.getElem?_map, List.getElem?_eq_getElem (by omega)]
    simp [List.getD, List.getElem?_eq_getElem (show (i + l.length).toNat < l.length by omega)]
theorem ixN_nat {n j : Nat} (h : j < n) : ixN n (j : Int) = some j := by
  unfold ixN
  rw [if_pos (by omega), if_pos (by omega)]
  rfl
theorem ixN_pos {n : Nat} {i : Int} (h0 : 0 ≤ i) (h : i < n) : ixN n i = some i.toNat := by
  unfold ixN
  rw [if_pos h0, if_pos h]
/-! ### repr of numbers -/
theorem Str_len (s : String) : (Str.ofString s).length = s.length := by
  exact ofString_length s
/-! ### loops by an invariant -/
theorem loop_inv {src : Src} {mg : DTG} {mb : DTS} {K : DEnds} (I : List D → Env → Prop) (hs : ∀ xs Γ, I xs Γ → srcL Γ src) (hn : ∀ Γ, I [] Γ → K.nx Γ)
    (hc : ∀ x xs Γ (N : Env → Prop), I (x :: xs) Γ → (∀ Γ', I xs Γ' → N Γ') → mg x Γ fun Γ2 => mb { K with nx := N, ct := N, bk := K.nx } Γ2) : ∀ (items : List D) (Γ : Env), I items Γ → loopM src mg mb K items Γ
  | [], Γ, h => ⟨hs _ _ h, hn _ h⟩
  | x :: xs, Γ, h => ⟨hs _ _ h, hc x xs Γ _ h fun Γ' h' => loop_inv I hs hn hc xs Γ' h'⟩
/-- over a list of numbers -/
theorem loop_ints {src : Src} {mg : DTG} {mb : DTS} {K : DEnds} (I : List Int → Env → Prop) (hs : ∀ xs Γ, I xs Γ → srcL Γ src) (hn : ∀ Γ, I [] Γ → K.nx Γ)
    (hc : ∀ x xs Γ (N : Env → Prop), I (x :: xs) Γ → (∀ Γ', I xs Γ' → N Γ') → mg (.int x) Γ fun Γ2 => mb { K with nx := N, ct := N, bk := K.nx } Γ2) : ∀ (items : List Int) (Γ : Env), I items Γ → loopM src mg mb K (items.map D.int) Γ
  | [], Γ, h => ⟨hs _ _ h, hn _ h⟩
  | x :: xs, Γ, h => ⟨hs _ _ h, hc x xs Γ _ h fun Γ' h' => loop_ints I hs hn hc xs Γ' h'⟩
theorem rngD_cons (lo : Int) (n : Nat) : rngD lo (n + 1) = .int lo :: rngD (lo + 1) n := by
  unfold rngD
  rw [List.range_succ_eq_map, List.map_cons, List.map_map]
  congr 1
  · simp
  · apply List.map_congr_left; intro a _; simp; omega
/-- over a range: what holds before turn i -/
theorem loop_rng {src : Src} {mg : DTG} {mb : DTS} {K : DEnds} (hi : Int) (I : Int → Env → Prop) (hs : ∀ i Γ, I i Γ → srcL Γ src) (hn : ∀ Γ, I hi Γ → K.nx Γ)
    (hc : ∀ i Γ (N : Env → Prop), i < hi → I i Γ → (∀ Γ', I (i + 1) Γ' → N Γ') → mg (.int i) Γ fun Γ2 => mb { K with nx := N, ct := N, bk := K.nx } Γ2) : ∀ (n : Nat) (lo : Int) (Γ : Env), lo + n = hi → I lo Γ → loopM src mg mb K (rngD lo n) Γ
  | 0, lo, Γ, e, h => by
    have : lo = hi := by omega
    subst this
    exact ⟨hs _ _ h, hn _ h⟩
  | n + 1, lo, Γ, e, h => by
    rw [rngD_cons]
    exact ⟨hs _ _ h, hc lo Γ _ (by omega) h fun Γ' h' => loop_rng hi I hs hn hc n (lo + 1) Γ' (by omega) h'⟩
/-- enumerate -/
theorem loop_enum {src : Src} {mg : DTG} {mb : DTS} {K : DEnds} (I : Nat → List D → Env → Prop) (hs : ∀ i xs Γ, I i xs Γ → srcL Γ src) (hn : ∀ i Γ, I i [] Γ → K.nx Γ)
    (hc : ∀ i x xs Γ (N : Env → Prop), I i (x :: xs) Γ → (∀ Γ', I (i + 1) xs Γ' → N Γ') → mg (.tup [.int (i : Int), x]) Γ fun Γ2 => mb { K with nx := N, ct := N, bk := K.nx } Γ2) : ∀ (items : List D) (i : Nat) (Γ : Env), I i items Γ → loopM src mg mb K (enumD i items) Γ
  | [], i, Γ, h => by rw [enumD]; exact ⟨hs _ _ _ h, hn _ _ h⟩
  | x :: xs, i, Γ, h => by rw [enumD]; exact ⟨hs _ _ _ h, hc i x xs Γ _ h fun Γ' h' => loop_enum I hs hn hc xs (i + 1) Γ' h'⟩
def cik (acc : List D) (Γ : Env) (vs : List Nat) (N : List D → Env → Prop) (r : Res) (Γ4 : Env) : Prop := ∃ d, dat r = some d ∧ acc.length < 100000 ∧ N (acc ++ [d]) (restD Γ Γ4 vs)
def cfk (Γ : Env) (vs : List Nat) (N : Option D → Env → Prop) (r : Res) (Γ4 : Env) : Prop := ∃ d, dat r = some d ∧ N (some d) (restD Γ Γ4 vs)
theorem c_ik {acc : List D} {Γ Γ4 Γ' : Env} {vs : List Nat} {N : List D → Env → Prop} {r : Res} {d : D} (h1 : dat r = some d) (h2 : acc.length < 100000) (h3 : restD Γ Γ4 vs = Γ') (h : N (acc ++ [d]) Γ') : cik acc Γ vs N r Γ4 := ⟨_, h1, h2, by rw [h3]; exact h⟩
theorem c_fk {Γ Γ4 Γ' : Env} {vs : List Nat} {N : Option D → Env → Prop} {r : Res} {d : D} (h1 : dat r = some d) (h3 : restD Γ Γ4 vs = Γ') (h : N (some d) Γ') : cfk Γ vs N r Γ4 := ⟨_, h1, by rw [h3]; exact h⟩
/-- a comprehension that leaves the slots alone: by a function -/
theorem comp_fn {src : Src} {mg : DTG} {mt : DTT} {me : DTE} {vs : List Nat} {Q : List D → Env → Prop} {Γ : Env} (g : D → Option D) (hs : srcD Γ src) (ho : okOwn Γ vs = true) :
    ∀ (items acc : List D), (∀ x ∈ items, ∀ (N : Option D → Env → Prop), N (g x) Γ → mg x (wipeD Γ vs) fun Γ2 => mt Γ2 fun b Γ3 => if b = true then me Γ3 (cfk Γ vs N) else N none (restD Γ Γ3 vs)) → acc.length + items.length ≤ 100000 → Q (acc ++ items.filterMap g) Γ → compM src mg mt me vs Q items acc Γ
  | [], acc, _, _, hq => ⟨hs, by rw [List.filterMap_nil, List.append_nil] at hq; exact hq⟩
  | x :: xs, acc, h, hl, hq => by
    refine ⟨hs, ho, ?_⟩
    have hl' : acc.length + (xs.length + 1) ≤ 100000 := hl
    refine h x (List.mem_cons_self ..) (fun o Γ' => match o with
      | some d => acc.length < 100000 ∧ compM src mg mt me vs Q xs (acc ++ [d]) Γ'
      | none => compM src mg mt me vs Q xs acc Γ') ?_
    cases hg : g x with
    | some d =>
      rw [List.filterMap_cons_some hg] at hq
      refine ⟨by omega, comp_fn g hs ho xs (acc ++ [d]) (fun y hy => h y (List.mem_cons_of_mem _ hy)) (by rw [List.length_append, List.length_singleton]; omega) ?_⟩
      rw [List.append_assoc]; exact hq
    | none =>
      rw [List.filterMap_cons_none hg] at hq
      exact comp_fn g hs ho xs acc (fun y hy => h y (List.mem_cons_of_mem _ hy)) (by omega) hq
/-- a comprehension by an invariant -/
theorem comp_inv {src : Src} {mg : DTG} {mt : DTT} {me : DTE} {vs : List Nat} {Q : List D → Env → Prop} (I : List D → List D → Env → Prop) (hs : ∀ xs acc Γ, I xs acc Γ → srcD Γ src ∧ okOwn Γ vs = true) (hn : ∀ acc Γ, I [] acc Γ → Q acc Γ)
    (hc : ∀ x xs acc Γ (N : List D → Env → Prop), I (x :: xs) acc Γ → (∀ acc' Γ', I xs acc' Γ' → N acc' Γ') → mg x (wipeD Γ vs) fun Γ2 => mt Γ2 fun b Γ3 => if b = true then me Γ3 (cik acc Γ vs N) else N acc (restD Γ Γ3 vs)) :
    ∀ (items acc : List D) (Γ : Env), I items acc Γ → compM src mg mt me vs Q items acc Γ
  | [], acc, Γ, h => ⟨(hs _ _ _ h).1, hn _ _ h⟩
  | x :: xs, acc, Γ, h => ⟨(hs _ _ _ h).1, (hs _ _ _ h).2, hc x xs acc Γ (fun a g => compM src mg mt me vs Q xs a g) h fun a' Γ' h' => comp_inv I hs hn hc xs a' Γ' h'⟩
/-! ### the bag of a law -/
def BagD (b : D) : Prop := ∃ (big seed pos : Int) (cells : List Int), b = .lst [.int big, .int seed, .int pos, .lst (cells.map D.int)] ∧ 0 ≤ big ∧ 0 ≤ seed ∧ seed < 2147483647 ∧ 0 ≤ pos ∧ ∀ c ∈ cells, 0 ≤ c
/-- what a draw promises -/
def takeD : DSp := fun ds Q _ => ∃ b many, ds = [b, .int many] ∧ BagD b ∧ 0 < many ∧ many < 2 ^ 256 ∧ ∀ k b', 0 ≤ k → k < many → BagD b' → Q false (.int k) [b']
/-- what the making of the bag promises -/
def bagD : DSp := fun ds Q _ => ∃ ns : List Int, ds = [.scr (ns.map D.int)] ∧ ∀ b, BagD b → Q true b []
/-! ### one statement at a time -/
theorem atI_0 {α : Type} {a : α} {l : List α} : atI (a :: l) 0 = some a := by
  unfold atI ixN
  rw [if_pos (by decide), if_pos (by rw [List.length_cons]; omega)]
  rfl
theorem atI_1 {α : Type} {a b : α} {l : List α} : atI (a :: b :: l) 1 = some b := by
  unfold atI ixN
  rw [if_pos (by decide), if_pos (by rw [List.length_cons, List.length_cons]; omega)]
  rfl
theorem atI_2 {α : Type} {a b c : α} {l : List α} : atI (a :: b :: c :: l) 2 = some c := by
  unfold atI ixN
  rw [if_pos (by decide), if_pos (by rw [List.length_cons, List.length_cons, List.length_cons]; omega)]
  rfl
theorem atI_3 {α : Type} {a b c d : α} {l : List α} : atI (a :: b :: c :: d :: l) 3 = some d := by
  unfold atI ixN
  rw [if_pos (by decide), if_pos (by rw [List.length_cons, List.length_cons, List.length_cons, List.length_cons]; omega)]
  rfl
theorem atI_some {α : Type} {l : List α} {i : Int} (h0 : 0 ≤ i) (h : i < l.length) : atI l i = some (l[i.toNat]'(by omega)) := by
  unfold atI ixN
  rw [if_pos h0, if_pos h, Option.bind_some, List.getElem?_eq_getElem]
theorem ixN_0 {n : Nat} : ixN (n + 1) 0 = some 0 := by
  unfold ixN
  rw [if_pos (by decide), if_pos (by omega)]; rfl
theorem ixN_1 {n : Nat} : ixN (n + 2) 1 = some 1 := by
  unfold ixN
  rw [if_pos (by decide), if_pos (by omega)]; rfl
theorem ixN_2 {n : Nat} : ixN (n + 3) 2 = some 2 := by
  unfold ixN
  rw [if_pos (by decide), if_pos (by omega)]; rfl
theorem ixN_3 {n : Nat} : ixN (n + 4) 3 = some 3 := by
  unfold ixN
  rw [if_pos (by decide), if_pos (by omega)]; rfl
theorem mulOk_r {i j : Int} (h1 : -(2 ^ 64) < j) (h2 : j < 2 ^ 64) : MulOk i j := .inl (.inr ⟨h1, h2⟩)
theorem mulOk_l {i j : Int} (h1 : -(2 ^ 64) < i) (h2 : i < 2 ^ 64) : MulOk i j := .inl (.inl ⟨h1, h2⟩)
theorem divW_of {i j : Int} (h1 : 0 < j) (h2 : j < 2 ^ 256) : CDivW i j := by
  refine ⟨h1, ?_⟩
  have h3 : j.natAbs < 2 ^ 256 := by omega
  have h4 : j.natAbs ≠ 0 := by omega
  have h5 := (Nat.log2_lt h4 (k := 256)).mpr h3
  omega
/-! the ends, kept folded -/
def rtD (ms : List Md) (Qd : Bool → D → List D → Prop) : Res → Env → Prop := (endsD ms Qd).rt
theorem endsD_mk {ms : List Md} {Qd : Bool → D → List D → Prop} : endsD ms Qd = .mk (fun Γ => Qd false .non (iosD ms Γ)) (rtD ms Qd) (fun _ => False) (fun _ => False) := rfl
theorem cut {m n : DTS} {a : Env → Prop} {b : Res → Env → Prop} {c d : Env → Prop} {Γ : Env} (P : Env → Prop) (h1 : ∀ N : Env → Prop, (∀ Γ', P Γ' → N Γ') → m (.mk N b c d) Γ) (h2 : ∀ Γ', P Γ' → n (.mk a b c d) Γ') : mSeqS m n (.mk a b c d) Γ := h1 (n (.mk a b c d)) h2
end DL
/-! the data layer, part 16: one step of a reading at a time -/
namespace DL
open PySem L2
section
variable {Γ Γ' : Env} {Q : QE} {i : Nat} {d e : D} {ma mb mc : DTE} {mr : DTA} {f : D → D → (Res → Prop) → Prop} {g : List D → (Res → Prop) → Prop} {r r2 : Res} {rs : List Res} {ds : List D} {b : Bool}
theorem e_C (h : Q (.val d) Γ) : mC d Γ Q := h
def vq (s : Sl) (i : Nat) (Γ : Env) (Q : QE) : Prop := match s with
    | .sh d => Q (.val d) Γ
    | .ow _ => Q (.pl i) Γ
    | .io _ => Q (.pl i) Γ
    | .bo _ => Q (.pl i) Γ
    | .pn _ _ => Q (.pl i) Γ
    | _ => False
theorem e_V {s : Sl} (hs : Γ[i]? = some s) (h : vq s i Γ Q) : mVar i Γ Q := by
  unfold mVar
  rw [hs]
  cases s <;> exact h
theorem v_sh (h : Q (.val d) Γ) : vq (.sh d) i Γ Q := h
theorem v_ow (h : Q (.pl i) Γ) : vq (.ow d) i Γ Q := h
theorem v_io (h : Q (.pl i) Γ) : vq (.io d) i Γ Q := h
theorem v_bo (h : Q (.pl i) Γ) : vq (.bo d) i Γ Q := h
def op2 (f : D → D → (Res → Prop) → Prop) (Γ : Env) (ra rb : Res) (Q : QE) : Prop := ∃ a b, rd Γ ra = some a ∧ rd Γ rb = some b ∧ f a b fun r => Q r Γ
theorem e_op (h : ma Γ fun ra Γ1 => mb Γ1 fun rb Γ2 => op2 f Γ2 ra rb Q) : mOp f ma mb Γ Q := h
theorem e_op2 (h1 : rd Γ r = some d) (h2 : rd Γ r2 = some e) (h : f d e fun r => Q r Γ) : op2 f Γ r r2 Q := ⟨_, _, h1, h2, h⟩
def op1 (f : D → (Res → Prop) → Prop) (Γ : Env) (ra : Res) (Q : QE) : Prop := ∃ a, rd Γ ra = some a ∧ f a fun r => Q r Γ
theorem e_un {f : D → (Res → Prop) → Prop} (h : ma Γ fun ra Γ1 => op1 f Γ1 ra Q) : mUn f ma Γ Q := h
theorem e_op1 {f : D → (Res → Prop) → Prop} (h1 : rd Γ r = some d) (h : f d fun r => Q r Γ) : op1 f Γ r Q := ⟨_, h1, h⟩
def tst (r : Res) (Γ : Env) (Q : Bool → Env → Prop) : Prop := ∃ b, r = .val (.bl b) ∧ Q b Γ
theorem e_test {Q : Bool → Env → Prop} (h : ma Γ fun r Γ1 => tst r Γ1 Q) : mTest ma Γ Q := h
theorem e_tst {Q : Bool → Env → Prop} (h : Q b Γ) : tst (.val (.bl b)) Γ Q := ⟨_, rfl, h⟩
def andv (r : Res) (Γ : Env) (mb : DTE) (Q : QE) : Prop := ∃ b, r = .val (.bl b) ∧ if b = true then mb Γ Q else Q (.val (.bl false)) Γ
def orv (r : Res) (Γ : Env) (mb : DTE) (Q : QE) : Prop := ∃ b, r = .val (.bl b) ∧ if b = true then Q (.val (.bl true)) Γ else mb Γ Q
def notv (r : Res) (Γ : Env) (Q : QE) : Prop := ∃ b, r = .val (.bl b) ∧ Q (.val (.bl (!b))) Γ
theorem e_andV (h : ma Γ fun r Γ1 => andv r Γ1 mb Q) : mAndV ma mb Γ Q := h
theorem e_orV (h : ma Γ fun r Γ1 => orv r Γ1 mb Q) : mOrV ma mb Γ Q := h
theorem e_notV (h : ma Γ fun r Γ1 => notv r Γ1 Q) : mNotV ma Γ Q := h
theorem e_andv (h : if b = true then mb Γ Q else Q (.val (.bl false)) Γ) : andv (.val (.bl b)) Γ mb Q := ⟨_, rfl, h⟩
theorem e_orv (h : if b = true then Q (.val (.bl true)) Γ else mb Γ Q) : orv (.val (.bl b)) Γ mb Q := ⟨_, rfl, h⟩
theorem e_notv (h : Q (.val (.bl (!b))) Γ) : notv (.val (.bl b)) Γ Q := ⟨_, rfl, h⟩
theorem e_and {ma mb : DTT} {Q : Bool → Env → Prop} (h : ma Γ fun b Γ1 => if b = true then mb Γ1 Q else Q false Γ1) : mAnd ma mb Γ Q := h
theorem e_or {ma mb : DTT} {Q : Bool → Env → Prop} (h : ma Γ fun b Γ1 => if b = true then Q true Γ1 else mb Γ1 Q) : mOr ma mb Γ Q := h
theorem e_not {ma : DTT} {Q : Bool → Env → Prop} (h : ma Γ fun b Γ1 => Q (!b) Γ1) : mNot ma Γ Q := h
theorem e_if {mt : DTT} (h : mt Γ fun b Γ1 => if b = true then ma Γ1 Q else mb Γ1 Q) : mIf mt ma mb Γ Q := h
theorem e_ite {b : Bool} {x y : Prop} (h1 : b = true → x) (h2 : b = false → y) : if b = true then x else y := by
  cases b with
  | true => exact h1 rfl
  | false => exact h2 rfl
theorem e_Tt {x y : Prop} (h1 : x) : if true = true then x else y := h1
theorem e_Ff {x y : Prop} (h1 : y) : if false = true then x else y := h1
theorem e_nTt {x y : Prop} (h1 : y) : if (!true) = true then x else y := h1
theorem e_nFf {x y : Prop} (h1 : x) : if (!false) = true then x else y := h1
theorem e_T {b : Bool} {x y : Prop} (h : b = true) (h1 : x) : if b = true then x else y := by rw [if_pos h]; exact h1
theorem e_F {b : Bool} {x y : Prop} (h : b = false) (h1 : y) : if b = true then x else y := by subst h; exact h1
theorem e_dT {p x y : Prop} [Decidable p] (h : p) (h1 : x) : if decide p = true then x else y := e_T (decide_eq_true h) h1
theorem e_dF {p x y : Prop} [Decidable p] (h : ¬ p) (h1 : y) : if decide p = true then x else y := e_F (decide_eq_false h) h1
theorem e_nT {p x y : Prop} [Decidable p] (h : p) (h1 : y) : if (!decide p) = true then x else y := e_F (by rw [decide_eq_true h]; rfl) h1
theorem e_nF {p x y : Prop} [Decidable p] (h : ¬ p) (h1 : x) : if (!decide p) = true then x else y := e_T (by rw [decide_eq_false h]; rfl) h1
theorem e_dif {p x y : Prop} [Decidable p] (h1 : p → x) (h2 : ¬ p → y) : if decide p = true then x else y := e_ite (fun h => h1 (of_decide_eq_true h)) fun h => h2 (of_decide_eq_false h)
theorem e_nif {p x y : Prop} [Decidable p] (h1 : ¬ p → x) (h2 : p → y) : if (!decide p) = true then x else y := e_ite (fun h => h1 (by simpa using h)) fun h => h2 (by simpa using h)
theorem e_nil {Q : List Res → Env → Prop} (h : Q [] Γ) : mNil Γ Q := h
theorem e_cons {Q : List Res → Env → Prop} (h : ma Γ fun r Γ1 => mr Γ1 fun rs Γ2 => Q (r :: rs) Γ2) : mCons ma mr Γ Q := h
def cbk (f : List D → (Res → Prop) → Prop) (Γ : Env) (rs : List Res) (Q : QE) : Prop := ∃ ds, rds Γ rs = some ds ∧ f ds fun r => Q r Γ
theorem e_CB (h : mr Γ fun rs Γ1 => cbk g Γ1 rs Q) : mCB g mr Γ Q := h
theorem e_cb (h1 : rds Γ rs = some ds) (h : g ds fun r => Q r Γ) : cbk g Γ rs Q := ⟨_, h1, h⟩
def lsk (Γ : Env) (rs : List Res) (Q : QE) : Prop := ∃ ds, dats rs = some ds ∧ ds.length ≤ 100000 ∧ Q (.fr (.lst ds)) Γ
def tpk (Γ : Env) (rs : List Res) (Q : QE) : Prop := ∃ ds, dats rs = some ds ∧ ds.length ≤ 100000 ∧ Q (.val (.tup ds)) Γ
theorem e_Lst (h : mr Γ fun rs Γ1 => lsk Γ1 rs Q) : mLst mr Γ Q := h
theorem e_Tup (h : mr Γ fun rs Γ1 => tpk Γ1 rs Q) : mTup mr Γ Q := h
theorem e_lst (h1 : dats rs = some ds) (h2 : ds.length ≤ 100000) (h : Q (.fr (.lst ds)) Γ) : lsk Γ rs Q := ⟨_, h1, h2, h⟩
theorem e_tup (h1 : dats rs = some ds) (h2 : ds.length ≤ 100000) (h : Q (.val (.tup ds)) Γ) : tpk Γ rs Q := ⟨_, h1, h2, h⟩
def slk (f : D → Option Int → Option Int → (Res → Prop) → Prop) (Γ : Env) (r : Res) (lo hi : Option Int) (Q : QE) : Prop := ∃ d, rd Γ r = some d ∧ f d lo hi fun r => Q r Γ
theorem e_Sl {f : D → Option Int → Option Int → (Res → Prop) → Prop} {ml mh : Env → (Option Int → Env → Prop) → Prop} (h : ma Γ fun r Γ1 => ml Γ1 fun lo Γ2 => mh Γ2 fun hi Γ3 => slk f Γ3 r lo hi Q) : mSl f ma ml mh Γ Q := h
theorem e_sl {f : D → Option Int → Option Int → (Res → Prop) → Prop} {lo hi : Option Int} (h1 : rd Γ r = some d) (h : f d lo hi fun r => Q r Γ) : slk f Γ r lo hi Q := ⟨_, h1, h⟩
theorem e_noP {Q : Option Int → Env → Prop} (h : Q none Γ) : mNoP Γ Q := h
def prk (r : Res) (Γ : Env) (Q : Option Int → Env → Prop) : Prop := ∃ i, r = .val (.int i) ∧ Q (some i) Γ
theorem e_Part {Q : Option Int → Env → Prop} (h : ma Γ fun r Γ1 => prk r Γ1 Q) : mPart ma Γ Q := h
theorem e_part {Q : Option Int → Env → Prop} {i : Int} (h : Q (some i) Γ) : prk (.val (.int i)) Γ Q := ⟨_, rfl, h⟩
theorem i_slL {lo hi : Option Int} {Q : Res → Prop} (h : Q (.fr (.lst (DL.cutD ds lo hi)))) : slD (.lst ds) lo hi Q := h
theorem i_slT {lo hi : Option Int} {Q : Res → Prop} (h : Q (.val (.tup (DL.cutD ds lo hi)))) : slD (.tup ds) lo hi Q := h
theorem i_slC {lo hi : Option Int} {Q : Res → Prop} (h : Q (.fr (.lst (DL.cutD ds lo hi)))) : slD (.scr ds) lo hi Q := h
def rvk (r : Res) (Γ : Env) (Q : QE) : Prop := ∃ ds, rd Γ r = some (.lst ds) ∧ Q (.fr (.lst ds.reverse)) Γ
theorem e_RevL (h : ma Γ fun r Γ1 => rvk r Γ1 Q) : mRevL ma Γ Q := h
theorem e_revL (h1 : rd Γ r = some (.lst ds)) (h : Q (.fr (.lst ds.reverse)) Γ) : rvk r Γ Q := ⟨_, h1, h⟩
def isk (T : String) (r : Res) (Γ : Env) (Q : QE) : Prop := ∃ d, rd Γ r = some d ∧ (tyN d).isSome = true ∧ Q (.val (.bl (isTy T d))) Γ
theorem e_Isi {T : String} (h : ma Γ fun r Γ1 => isk T r Γ1 Q) : mIsi T ma Γ Q := h
theorem e_isi {T : String} (h1 : rd Γ r = some d) (h2 : (tyN d).isSome = true) (h3 : isTy T d = b) (h : Q (.val (.bl b)) Γ) : isk T r Γ Q := ⟨_, h1, h2, by rw [h3]; exact h⟩
theorem e_isiT {T : String} (h1 : rd Γ r = some d) (h2 : (tyN d).isSome = true) (h3 : isTy T d = true) (h : Q (.val (.bl true)) Γ) : isk T r Γ Q := e_isi h1 h2 h3 h
theorem e_isiF {T : String} (h1 : rd Γ r = some d) (h2 : (tyN d).isSome = true) (h3 : isTy T d = false) (h : Q (.val (.bl false)) Γ) : isk T r Γ Q := e_isi h1 h2 h3 h
/-! calls -/
def clk (ms : List Md) (sd : DSp) (Γ : Env) (rs : List Res) (Q : QE) : Prop := ∃ ds, argsD Γ ms rs = some ds ∧ apartB ms rs = true ∧ sd ds (fun b d ds' => ∃ Γ2, putsD (mPls ms rs) ds' Γ = some Γ2 ∧ Q (if b = true then frOf d else .val d) Γ2) noX
def ptk (is : List Nat) (Γ : Env) (Q : QE) : Bool → D → List D → Prop := fun b d ds' => ∃ Γ2, putsD is ds' Γ = some Γ2 ∧ Q (if b = true then frOf d else .val d) Γ2
theorem e_Call {ms : List Md} {sd : DSp} (h : mr Γ fun rs Γ1 => clk ms sd Γ1 rs Q) : mCall ms sd mr Γ Q := h
theorem e_call {ms : List Md} {sd : DSp} {is : List Nat} (h1 : argsD Γ ms rs = some ds) (h2 : apartB ms rs = true) (h3 : mPls ms rs = is) (h : sd ds (ptk is Γ Q) noX) : clk ms sd Γ rs Q := ⟨_, h1, h2, by subst h3; exact h⟩
theorem e_ptV {is : List Nat} {Γ1 : Env} (h1 : putsD is ds Γ = some Γ1) (h2 : Γ1 = Γ') (h : Q (.val d) Γ') : ptk is Γ Q false d ds := ⟨_, h1, by rw [h2]; exact h⟩
theorem e_ptF {is : List Nat} {Γ1 : Env} (h1 : putsD is ds Γ = some Γ1) (h2 : Γ1 = Γ') (h0 : frOf d = .fr d) (h : Q (.fr d) Γ') : ptk is Γ Q true d ds := ⟨_, h1, by rw [h2, if_pos rfl, h0]; exact h⟩
theorem e_ptN {is : List Nat} {Γ1 : Env} {a : D} {l : List D} (h1 : putsD is ds Γ = some Γ1) (h2 : Γ1 = Γ') (h : Q (.np a l) Γ') : ptk is Γ Q true (.tup [a, .lst l]) ds := ⟨_, h1, by rw [h2]; exact h⟩
/-! list(range(..)) -/
def rgk (r : Res) (Γ : Env) (Q : Int → Int → Env → Prop) : Prop := ∃ n, r = .val (.int n) ∧ Q 0 n Γ
theorem e_Rg1 {Q : Int → Int → Env → Prop} (h : ma Γ fun r Γ1 => rgk r Γ1 Q) : mRg1 ma Γ Q := h
theorem e_rg1 {Q : Int → Int → Env → Prop} {n : Int} (h : Q 0 n Γ) : rgk (.val (.int n)) Γ Q := ⟨_, rfl, h⟩
def rgk2 (r r2 : Res) (Γ : Env) (Q : Int → Int → Env → Prop) : Prop := ∃ i j, r = .val (.int i) ∧ r2 = .val (.int j) ∧ Q i j Γ
theorem e_Rg2 {Q : Int → Int → Env → Prop} (h : ma Γ fun r Γ1 => mb Γ1 fun r2 Γ2 => rgk2 r r2 Γ2 Q) : mRg2 ma mb Γ Q := h
theorem e_rg2 {Q : Int → Int → Env → Prop} {i j : Int} (h : Q i j Γ) : rgk2 (.val (.int i)) (.val (.int j)) Γ Q := ⟨_, _, rfl, rfl, h⟩
def lrk (a b : Int) (Γ : Env) (Q : QE) : Prop := RgOk a b ∧ Q (.fr (.lst (rgD a b))) Γ
def trk (a b : Int) (Γ : Env) (Q : QE) : Prop := RgOk a b ∧ Q (.val (.tup (rgD a b))) Γ
theorem e_LRg {mg : Env → (Int → Int → Env → Prop) → Prop} (h : mg Γ fun a b Γ1 => lrk a b Γ1 Q) : mLRg mg Γ Q := h
theorem e_TRg {mg : Env → (Int → Int → Env → Prop) → Prop} (h : mg Γ fun a b Γ1 => trk a b Γ1 Q) : mTRg mg Γ Q := h
theorem e_lrg {a b : Int} (h1 : RgOk a b) (h : Q (.fr (.lst (rgD a b))) Γ) : lrk a b Γ Q := ⟨h1, h⟩
theorem e_trg {a b : Int} (h1 : RgOk a b) (h : Q (.val (.tup (rgD a b))) Γ) : trk a b Γ Q := ⟨h1, h⟩
/-! chains -/
def ch1 (f f' : Int → Int → Bool) (mc : DTE) (ra rb : Res) (Γ : Env) (Q : QE) : Prop := ∃ i j, ra = .val (.int i) ∧ rb = .val (.int j) ∧
  if f i j = true then mc Γ fun rc Γ3 => ∃ k, rc = .val (.int k) ∧ Q (.val (.bl (f' j k))) Γ3 else Q (.val (.bl false)) Γ
theorem e_Chain {f f' : Int → Int → Bool} (h : ma Γ fun ra Γ1 => mb Γ1 fun rb Γ2 => ch1 f f' mc ra rb Γ2 Q) : mChain f f' ma mb mc Γ Q := h
def ch2 (f' : Int → Int → Bool) (j : Int) (rc : Res) (Γ : Env) (Q : QE) : Prop := ∃ k, rc = .val (.int k) ∧ Q (.val (.bl (f' j k))) Γ
theorem e_ch1 {f f' : Int → Int → Bool} {i j : Int} (h : if f i j = true then mc Γ fun rc Γ3 => ch2 f' j rc Γ3 Q else Q (.val (.bl false)) Γ) : ch1 f f' mc (.val (.int i)) (.val (.int j)) Γ Q := ⟨_, _, rfl, rfl, h⟩
theorem e_ch2 {f' : Int → Int → Bool} {j k : Int} (h : Q (.val (.bl (f' j k))) Γ) : ch2 f' j (.val (.int k)) Γ Q := ⟨_, rfl, h⟩
/-! changes in place -/
def mu0 (f : D → List D → (D → Res → Prop) → Prop) (mr : DTA) (ro : Res) (Γ : Env) (Q : QE) : Prop := ∃ i, ro = .pl i ∧ (∃ ds, cont Γ[i]? = some (.lst ds)) ∧ mr Γ fun rs Γ2 => ∃ c ds, mcont Γ2[i]? = some c ∧ dats rs = some ds ∧ f c ds fun c' z => ∃ Γ3, setC Γ2 i c' = some Γ3 ∧ Q z Γ3
def mu1 (f : D → List D → (D → Res → Prop) → Prop) (i : Nat) (rs : List Res) (Γ : Env) (Q : QE) : Prop := ∃ c ds, mcont Γ[i]? = some c ∧ dats rs = some ds ∧ f c ds fun c' z => ∃ Γ3, setC Γ i c' = some Γ3 ∧ Q z Γ3
def stk (i : Nat) (Γ : Env) (Q : QE) : D → Res → Prop := fun c' z => ∃ Γ3, setC Γ i c' = some Γ3 ∧ Q z Γ3
theorem e_Mut {f : D → List D → (D → Res → Prop) → Prop} (h : ma Γ fun ro Γ1 => mu0 f mr ro Γ1 Q) : mMut f ma mr Γ Q := h
theorem e_mu0 {f : D → List D → (D → Res → Prop) → Prop} (h1 : cont Γ[i]? = some (.lst ds)) (h : mr Γ fun rs Γ2 => mu1 f i rs Γ2 Q) : mu0 f mr (.pl i) Γ Q := ⟨_, rfl, ⟨_, h1⟩, h⟩
theorem e_mu1 {f : D → List D → (D → Res → Prop) → Prop} {c : D} (h1 : mcont Γ[i]? = some c) (h2 : dats rs = some ds) (h : f c ds (stk i Γ Q)) : mu1 f i rs Γ Q := ⟨_, _, h1, h2, h⟩
theorem e_st {c : D} {z : Res} {Γ1 : Env} (h1 : setC Γ i c = some Γ1) (h2 : Γ1 = Γ') (h : Q z Γ') : stk i Γ Q c z := ⟨_, h1, by rw [h2]; exact h⟩
/-! operators -/
theorem i_add {i j : Int} {Q : Res → Prop} (h : Q (.val (.int (i + j)))) : addD (.int i) (.int j) Q := h
theorem i_addL {x y : List D} {Q : Res → Prop} (h1 : x.length + y.length ≤ 100000) (h : Q (.fr (.lst (x ++ y)))) : addD (.lst x) (.lst y) Q := ⟨h1, h⟩
theorem i_sub {i j : Int} {Q : Res → Prop} (h : Q (.val (.int (i - j)))) : subD (.int i) (.int j) Q := h
theorem i_mul {i j : Int} {Q : Res → Prop} (h1 : MulOk i j) (h : Q (.val (.int (i * j)))) : mulD (.int i) (.int j) Q := ⟨h1, h⟩
theorem i_mulL {k : Int} {x : List D} {Q : Res → Prop} (h1 : -(2 ^ 63) ≤ k ∧ k < 2 ^ 63 ∧ x.length * k.toNat ≤ 100000) (h : Q (.fr (.lst (List.replicate k.toNat x).flatten))) : mulD (.lst x) (.int k) Q := ⟨h1, h⟩
theorem i_div {i j : Int} {Q : Res → Prop} (h1 : CDivW i j) (h : Q (.val (.int (i / j)))) : fdivD (.int i) (.int j) Q := ⟨h1, h⟩
theorem i_mod {i j : Int} {Q : Res → Prop} (h1 : 0 < j) (h : Q (.val (.int (i % j)))) : modD (.int i) (.int j) Q := ⟨h1, h⟩
theorem i_pow {i j : Int} {Q : Res → Prop} (h1 : PowOk i j) (h : Q (.val (.int (i ^ j.toNat)))) : powD (.int i) (.int j) Q := ⟨h1, h⟩
theorem i_neg {i : Int} {Q : Res → Prop} (h : Q (.val (.int (-i)))) : negD (.int i) Q := h
theorem i_lt {i j : Int} {Q : Res → Prop} (h : Q (.val (.bl (decide (i < j))))) : ltD (.int i) (.int j) Q := h
theorem i_le {i j : Int} {Q : Res → Prop} (h : Q (.val (.bl (decide (i ≤ j))))) : leD (.int i) (.int j) Q := h
theorem i_gt {i j : Int} {Q : Res → Prop} (h : Q (.val (.bl (decide (j < i))))) : gtD (.int i) (.int j) Q := h
theorem i_ge {i j : Int} {Q : Res → Prop} (h : Q (.val (.bl (decide (j ≤ i))))) : geD (.int i) (.int j) Q := h
theorem i_eqI {i j : Int} {Q : Res → Prop} (h : Q (.val (.bl (decide (i = j))))) : eqD (.int i) (.int j) Q := ⟨okE_int _, okE_int _, by rw [eqv_int]; exact h⟩
theorem i_neI {i j : Int} {Q : Res → Prop} (h : Q (.val (.bl (!decide (i = j))))) : neD (.int i) (.int j) Q := ⟨okE_int _, okE_int _, by rw [eqv_int]; exact h⟩
theorem i_eqL {i j : List Int} {Q : Res → Prop} (h : Q (.val (.bl (decide (i = j))))) : eqD (.lst (i.map D.int)) (.lst (j.map D.int)) Q := ⟨okE_ints _, okE_ints _, by rw [eqv_ints]; exact h⟩
theorem i_neL {i j : List Int} {Q : Res → Prop} (h : Q (.val (.bl (!decide (i = j))))) : neD (.lst (i.map D.int)) (.lst (j.map D.int)) Q := ⟨okE_ints _, okE_ints _, by rw [eqv_ints]; exact h⟩
theorem i_eqB {i j : Bool} {Q : Res → Prop} (h : Q (.val (.bl (decide (i = j))))) : eqD (.bl i) (.bl j) Q := ⟨okE_bl _, okE_bl _, by rw [eqv_bl]; exact h⟩
theorem i_isB {i j : Bool} {Q : Res → Prop} (h : Q (.val (.bl (decide (i = j))))) : isD (.bl i) (.bl j) Q := h
theorem i_isnB {i j : Bool} {Q : Res → Prop} (h : Q (.val (.bl (!decide (i = j))))) : isNotD (.bl i) (.bl j) Q := h
theorem i_ix {i : Int} {Q : Res → Prop} (h1 : atI ds i = some d) (h : Q (.val d)) : ixD (.lst ds) (.int i) Q := ⟨_, h1, h⟩
theorem i_ixT {i : Int} {Q : Res → Prop} (h1 : atI ds i = some d) (h : Q (.val d)) : ixD (.tup ds) (.int i) Q := ⟨_, h1, h⟩
theorem i_len {Q : Res → Prop} (h : Q (.val (.int ds.length))) : lenD [.lst ds] Q := h
theorem i_lenT {Q : Res → Prop} (h : Q (.val (.int ds.length))) : lenD [.tup ds] Q := h
theorem i_lenC {Q : Res → Prop} (h : Q (.val (.int ds.length))) : lenD [.scr ds] Q := h
theorem i_lenI {l : List Int} {Q : Res → Prop} (h : Q (.val (.int l.length))) : lenD [.lst (l.map D.int)] Q := by
  show Q (.val (.int (List.map D.int l).length)); rw [List.length_map]; exact h
theorem i_lenTI {l : List Int} {Q : Res → Prop} (h : Q (.val (.int l.length))) : lenD [.tup (l.map D.int)] Q := by
  show Q (.val (.int (List.map D.int l).length)); rw [List.length_map]; exact h
theorem i_int {i : Int} {Q : Res → Prop} (h : Q (.val (.int i))) : DL.intD [.int i] Q := h
theorem i_intB {i : Bool} {Q : Res → Prop} (h : Q (.val (.int (if i then 1 else 0)))) : DL.intD [.bl i] Q := h
theorem i_abs {i : Int} {Q : Res → Prop} (h : Q (.val (.int (i.natAbs : Int)))) : absD [.int i] Q := h
theorem i_min {i j : Int} {Q : Res → Prop} (h : Q (.val (.int (min i j)))) : minD [.int i, .int j] Q := h
theorem i_max {i j : Int} {Q : Res → Prop} (h : Q (.val (.int (max i j)))) : maxD [.int i, .int j] Q := h
theorem i_max3 {i j l : Int} {Q : Res → Prop} (h : Q (.val (.int (max i (max j l))))) : maxD [.int i, .int j, .int l] Q := h
theorem i_sum {l : List Int} {Q : Res → Prop} (h : Q (.val (.int l.sum))) : sumD [.lst (l.map D.int)] Q := ⟨_, ints?_map l, h⟩
theorem i_sumT {l : List Int} {Q : Res → Prop} (h : Q (.val (.int l.sum))) : sumD [.tup (l.map D.int)] Q := ⟨_, ints?_map l, h⟩
theorem i_all {l : List Bool} {Q : Res → Prop} (h : Q (.val (.bl (l.all id)))) : allD [.lst (l.map D.bl)] Q := ⟨_, bls?_map l, h⟩
theorem i_any {l : List Bool} {Q : Res → Prop} (h : Q (.val (.bl (l.any id)))) : anyD [.lst (l.map D.bl)] Q := ⟨_, bls?_map l, h⟩
theorem i_list {Q : Res → Prop} (h : Q (.fr (.lst ds))) : listD [.lst ds] Q := h
theorem i_listT {Q : Res → Prop} (h : Q (.fr (.lst ds))) : listD [.tup ds] Q := h
theorem i_listC {Q : Res → Prop} (h : Q (.fr (.lst ds))) : listD [.scr ds] Q := h
theorem i_tuple {Q : Res → Prop} (h : Q (.val (.tup ds))) : tupleD [.lst ds] Q := h
theorem i_tupleT {Q : Res → Prop} (h : Q (.val (.tup ds))) : tupleD [.tup ds] Q := h
theorem i_divmod {i j : Int} {Q : Res → Prop} (h1 : CDiv i j) (h : Q (.val (.tup [.int (i / j), .int (i % j)]))) : divmodD [.int i, .int j] Q := ⟨h1, h⟩
theorem i_addI {i j : Int} {Q : Res → Prop} (h : Q (.val (.int (i + j)))) : addI (.int i) (.int j) Q := h
theorem i_subI {i j : Int} {Q : Res → Prop} (h : Q (.val (.int (i - j)))) : subI (.int i) (.int j) Q := h
theorem i_append {Q : D → Res → Prop} (h1 : ds.length < 100000) (h : Q (.lst (ds ++ [d])) (.val .non)) : appendD (.lst ds) [d] Q := ⟨h1, h⟩
theorem i_insert0 {Q : D → Res → Prop} (h1 : ds.length < 100000) (h : Q (.lst (d :: ds)) (.val .non)) : insertD (.lst ds) [.int 0, d] Q := ⟨⟨h1, by decide, by decide⟩, by simpa using h⟩
theorem i_reverse {Q : D → Res → Prop} (h : Q (.lst ds.reverse) (.val .non)) : reverseD (.lst ds) [] Q := h
theorem i_clear {Q : D → Res → Prop} (h : Q (.lst []) (.val .non)) : clearD (.lst ds) [] Q := h
end
section
variable {Γ Γ' : Env} {nx bk ct : Env → Prop} {rt : Res → Env → Prop} {i : Nat} {d : D} {ma me : DTE} {m n : DTS} {mt : DTT} {mg : DTG} {mi : DTI} {r : Res} {rs : List Res} {mp : DTP} {ts : List Tg} {c : D}
theorem s_next (h : nx Γ) : mNext (.mk nx rt bk ct) Γ := h
theorem s_brk (h : bk Γ) : mBrk (.mk nx rt bk ct) Γ := h
theorem s_cnt (h : ct Γ) : mCnt (.mk nx rt bk ct) Γ := h
theorem s_seq (h : m (.mk (n (.mk nx rt bk ct)) rt bk ct) Γ) : mSeqS m n (.mk nx rt bk ct) Γ := h
theorem s_drop (h : ma Γ fun _ Γ1 => nx Γ1) : mDrop ma (.mk nx rt bk ct) Γ := h
theorem s_ret (h : ma Γ rt) : mRet ma (.mk nx rt bk ct) Γ := h
theorem s_retN (h : rt (.val .non) Γ) : mRetN (.mk nx rt bk ct) Γ := h
theorem s_if (h : mt Γ fun b Γ1 => if b = true then m (.mk nx rt bk ct) Γ1 else n (.mk nx rt bk ct) Γ1) : mIfS mt m n (.mk nx rt bk ct) Γ := h
def sek (i : Nat) (r : Res) (Γ : Env) (nx : Env → Prop) : Prop := ∃ d, dat r = some d ∧ freeB Γ i = true ∧ nx (Γ.set i (.sh d))
def sok (i : Nat) (r : Res) (Γ : Env) (nx : Env → Prop) : Prop := ∃ d, r = .fr d ∧ freeB Γ i = true ∧ nx (Γ.set i (.ow d))
theorem s_Set (h : ma Γ fun r Γ1 => sek i r Γ1 nx) : mSet i ma (.mk nx rt bk ct) Γ := h
theorem s_SetO (h : ma Γ fun r Γ1 => sok i r Γ1 nx) : mSetO i ma (.mk nx rt bk ct) Γ := h
theorem s_set (h1 : dat r = some d) (h2 : freeB Γ i = true) (h3 : Γ.set i (.sh d) = Γ') (h : nx Γ') : sek i r Γ nx := ⟨_, h1, h2, by rw [h3]; exact h⟩
theorem s_setO (h2 : freeB Γ i = true) (h3 : Γ.set i (.ow d) = Γ') (h : nx Γ') : sok i (.fr d) Γ nx := ⟨_, rfl, h2, by rw [h3]; exact h⟩
theorem s_frz (h1 : frzD Γ i = some Γ') (h : m (.mk nx rt bk ct) Γ') : mFrz i m (.mk nx rt bk ct) Γ := ⟨_, h1, h⟩
def ask (mg : DTG) (r : Res) (Γ : Env) (nx : Env → Prop) : Prop := ∃ d, dat r = some d ∧ mg d Γ nx
theorem s_Asg (h : ma Γ fun r Γ1 => ask mg r Γ1 nx) : mAsg ma mg (.mk nx rt bk ct) Γ := h
theorem s_asg (h1 : dat r = some d) (h : mg d Γ nx) : ask mg r Γ nx := ⟨_, h1, h⟩
theorem g_name (h1 : freeB Γ i = true) (h2 : Γ.set i (.sh d) = Γ') (h : nx Γ') : mgName i d Γ nx := ⟨h1, by rw [h2]; exact h⟩
theorem g_tup {n : Nat} {ms : DTGs} {ds : List D} (h1 : ds.length = n) (h : ms ds Γ nx) : mgTup n ms (.tup ds) Γ nx := ⟨_, rfl, h1, h⟩
theorem g_cons {ms : DTGs} {ds : List D} (h : mg d Γ fun Γ1 => ms ds Γ1 nx) : mgCons mg ms (d :: ds) Γ nx := ⟨_, _, rfl, h⟩
theorem g_nil (h : nx Γ) : mgNil [] Γ nx := ⟨rfl, h⟩
def sbk (f : D → D → D → (D → Prop) → Prop) (d : D) (ro ri : Res) (Γ : Env) (nx : Env → Prop) : Prop := ∃ i c k, ro = .pl i ∧ cont Γ[i]? = some c ∧ rd Γ ri = some k ∧ f c k d fun c' => ∃ Γ3, setC Γ i c' = some Γ3 ∧ nx Γ3
def sck (i : Nat) (Γ : Env) (nx : Env → Prop) : D → Prop := fun c' => ∃ Γ3, setC Γ i c' = some Γ3 ∧ nx Γ3
theorem g_Sub {f : D → D → D → (D → Prop) → Prop} (h : ma Γ fun ro Γ1 => me Γ1 fun ri Γ2 => sbk f d ro ri Γ2 nx) : mgSub ma me f d Γ nx := h
theorem g_sub {f : D → D → D → (D → Prop) → Prop} {k : D} (h1 : cont Γ[i]? = some c) (h2 : rd Γ r = some k) (h : f c k d (sck i Γ nx)) : sbk f d (.pl i) r Γ nx := ⟨_, _, _, rfl, h1, h2, h⟩
theorem g_set {Γ1 : Env} (h1 : setC Γ i c = some Γ1) (h2 : Γ1 = Γ') (h : nx Γ') : sck i Γ nx c := ⟨_, h1, by rw [h2]; exact h⟩
theorem i_st {ds : List D} {k : Int} {j : Nat} {Q : D → Prop} (h1 : ixN ds.length k = some j) (h : Q (.lst (ds.set j d))) : stD (.lst ds) (.int k) d Q := ⟨_, h1, h⟩
def auk (i : Nat) (x : D) (f : D → D → (Res → Prop) → Prop) (r : Res) (Γ : Env) (nx : Env → Prop) : Prop := ∃ y, rd Γ r = some y ∧ f x y fun z => ∃ d, z = .val d ∧ freeB Γ i = true ∧ nx (Γ.set i (.sh d))
def avk (i : Nat) (Γ : Env) (nx : Env → Prop) : Res → Prop := fun z => ∃ d, z = .val d ∧ freeB Γ i = true ∧ nx (Γ.set i (.sh d))
theorem s_Aug {f : D → D → (Res → Prop) → Prop} {x : D} (h1 : Γ[i]? = some (.sh x)) (h : me Γ fun r Γ1 => auk i x f r Γ1 nx) : mAug i me f (.mk nx rt bk ct) Γ := ⟨_, h1, h⟩
theorem s_aug {f : D → D → (Res → Prop) → Prop} {x y : D} (h1 : rd Γ r = some y) (h : f x y (avk i Γ nx)) : auk i x f r Γ nx := ⟨_, h1, h⟩
theorem s_av (h1 : freeB Γ i = true) (h2 : Γ.set i (.sh d) = Γ') (h : nx Γ') : avk i Γ nx (.val d) := ⟨_, rfl, h1, by rw [h2]; exact h⟩
/-! x[k] op= e -/
def a1k (me : DTE) (f : D → D → (Res → Prop) → Prop) (ro ri : Res) (Γ : Env) (nx : Env → Prop) : Prop := ∃ i ds k x, ro = .pl i ∧ cont Γ[i]? = some (.lst ds) ∧ ri = .val (.int k) ∧ atI ds k = some x ∧ me Γ fun rv Γ3 => ∃ y, rd Γ3 rv = some y ∧ f x y fun z => ∃ d ds3 j, z = .val d ∧ cont Γ3[i]? = some (.lst ds3) ∧ ixN ds3.length k = some j ∧ ∃ Γ4, setC Γ3 i (.lst (ds3.set j d)) = some Γ4 ∧ nx Γ4
def a2k (i : Nat) (k : Int) (x : D) (f : D → D → (Res → Prop) → Prop) (rv : Res) (Γ : Env) (nx : Env → Prop) : Prop := ∃ y, rd Γ rv = some y ∧ f x y fun z => ∃ d ds3 j, z = .val d ∧ cont Γ[i]? = some (.lst ds3) ∧ ixN ds3.length k = some j ∧ ∃ Γ4, setC Γ i (.lst (ds3.set j d)) = some Γ4 ∧ nx Γ4
def a3k (i : Nat) (k : Int) (Γ : Env) (nx : Env → Prop) : Res → Prop := fun z => ∃ d ds3 j, z = .val d ∧ cont Γ[i]? = some (.lst ds3) ∧ ixN ds3.length k = some j ∧ ∃ Γ4, setC Γ i (.lst (ds3.set j d)) = some Γ4 ∧ nx Γ4
theorem s_AugS {mo mi : DTE} {f : D → D → (Res → Prop) → Prop} (h : mo Γ fun ro Γ1 => mi Γ1 fun ri Γ2 => a1k me f ro ri Γ2 nx) : mAugS mo mi me f (.mk nx rt bk ct) Γ := h
theorem s_a1 {f : D → D → (Res → Prop) → Prop} {ds : List D} {k : Int} {x : D} (h1 : cont Γ[i]? = some (.lst ds)) (h2 : atI ds k = some x) (h : me Γ fun rv Γ3 => a2k i k x f rv Γ3 nx) : a1k me f (.pl i) (.val (.int k)) Γ nx := ⟨_, _, _, _, rfl, h1, rfl, h2, h⟩
theorem s_a2 {f : D → D → (Res → Prop) → Prop} {k : Int} {x y : D} (h1 : rd Γ r = some y) (h : f x y (a3k i k Γ nx)) : a2k i k x f r Γ nx := ⟨_, h1, h⟩
theorem s_a3 {k : Int} {ds : List D} {j : Nat} (h1 : cont Γ[i]? = some (.lst ds)) (h2 : ixN ds.length k = some j) {Γ1 : Env} (h3 : setC Γ i (.lst (ds.set j d)) = some Γ1) (h4 : Γ1 = Γ') (h : nx Γ') : a3k i k Γ nx (.val d) := ⟨_, _, _, rfl, h1, h2, _, h3, by rw [h4]; exact h⟩
/-! a, b = .. -/
theorem s_Par (h : mp Γ fun rs Γ1 => mTgs ts rs Γ1 nx) : mPar mp ts (.mk nx rt bk ct) Γ := h
theorem s_Par3 {n : Nat} (h : mp Γ fun rs Γ1 => rs.length = n ∧ mTgs ts rs Γ1 nx) : mPar3 n mp ts (.mk nx rt bk ct) Γ := h
theorem p_nil {Q : List Res → Env → Prop} (h : Q [] Γ) : mPNil Γ Q := h
def pck (r : Res) (mr : DTP) (Γ : Env) (Q : List Res → Env → Prop) : Prop := isPl r = false ∧ mr Γ fun rs Γ2 => Q (r :: rs) Γ2
theorem p_Cons {mr : DTP} {Q : List Res → Env → Prop} (h : ma Γ fun r Γ1 => pck r mr Γ1 Q) : mPCons ma mr Γ Q := h
theorem p_cons {mr : DTP} {Q : List Res → Env → Prop} (h1 : isPl r = false) (h : mr Γ fun rs Γ2 => Q (r :: rs) Γ2) : pck r mr Γ Q := ⟨h1, h⟩
theorem t_nil (h : nx Γ) : mTgs [] [] Γ nx := by rw [mTgs]; exact h
theorem t_sh (h1 : dat r = some d) (h2 : freeB Γ i = true) (h3 : Γ.set i (.sh d) = Γ') (h : mTgs ts rs Γ' nx) : mTgs (.sh i :: ts) (r :: rs) Γ nx := by rw [mTgs]; exact ⟨_, h1, h2, by rw [h3]; exact h⟩
theorem t_ow (h2 : freeB Γ i = true) (h3 : Γ.set i (.ow d) = Γ') (h : mTgs ts rs Γ' nx) : mTgs (.ow i :: ts) (.fr d :: rs) Γ nx := by rw [mTgs]; exact ⟨_, rfl, h2, by rw [h3]; exact h⟩
theorem t_sub {mo mi : DTE} (h1 : dat r = some d) (h : mgSub mo mi stD d Γ fun Γ1 => mTgs ts rs Γ1 nx) : mTgs (.sub mo mi :: ts) (r :: rs) Γ nx := by rw [mTgs]; exact ⟨_, h1, h⟩
theorem t_gen {mg : DTG} (h1 : dat r = some d) (h : mg d Γ fun Γ1 => mTgs ts rs Γ1 nx) : mTgs (.gen mg :: ts) (r :: rs) Γ nx := by rw [mTgs]; exact ⟨_, h1, h⟩
/-! loops -/
theorem s_For (h : mi Γ fun src items Γ1 => loopM src mg m (.mk nx rt bk ct) items Γ1) : mFor mi mg m (.mk nx rt bk ct) Γ := h
def sqk (r : Res) (Γ : Env) (Q : Src → List D → Env → Prop) : Prop := ∃ d ds, rd Γ r = some d ∧ itemsOf d = some ds ∧ Q (srcOf d r) ds Γ
theorem w_Seq {Q : Src → List D → Env → Prop} (h : ma Γ fun r Γ1 => sqk r Γ1 Q) : mSeq ma Γ Q := h
theorem w_seq {Q : Src → List D → Env → Prop} {ds : List D} (h1 : rd Γ r = some d) (h2 : itemsOf d = some ds) (h : Q (srcOf d r) ds Γ) : sqk r Γ Q := ⟨_, _, h1, h2, h⟩
def r1k (rs : List Res) (Γ : Env) (Q : Src → List D → Env → Prop) : Prop := ∃ j : Int, rs = [.val (.int j)] ∧ (-(2 ^ 62) ≤ j ∧ j < 2 ^ 62) ∧ Q .no (rngD 0 j.toNat) Γ
theorem w_Rng1 {mr : DTA} {Q : Src → List D → Env → Prop} (h : mr Γ fun rs Γ1 => r1k rs Γ1 Q) : mRng1 mr Γ Q := h
theorem w_rng1 {Q : Src → List D → Env → Prop} {j : Int} (h1 : -(2 ^ 62) ≤ j ∧ j < 2 ^ 62) (h : Q .no (rngD 0 j.toNat) Γ) : r1k [.val (.int j)] Γ Q := ⟨_, rfl, h1, h⟩
def r2k (rs : List Res) (Γ : Env) (Q : Src → List D → Env → Prop) : Prop := ∃ i j : Int, rs = [.val (.int i), .val (.int j)] ∧ (-(2 ^ 62) ≤ i ∧ i < 2 ^ 62 ∧ -(2 ^ 62) ≤ j ∧ j < 2 ^ 62) ∧ Q .no (rngD i (j - i).toNat) Γ
theorem w_Rng2 {mr : DTA} {Q : Src → List D → Env → Prop} (h : mr Γ fun rs Γ1 => r2k rs Γ1 Q) : mRng2 mr Γ Q := h
theorem w_rng2 {Q : Src → List D → Env → Prop} {i j : Int} (h1 : -(2 ^ 62) ≤ i ∧ i < 2 ^ 62 ∧ -(2 ^ 62) ≤ j ∧ j < 2 ^ 62) (h : Q .no (rngD i (j - i).toNat) Γ) : r2k [.val (.int i), .val (.int j)] Γ Q := ⟨_, _, rfl, h1, h⟩
def enk (r : Res) (Γ : Env) (Q : Src → List D → Env → Prop) : Prop := ∃ d ds, rd Γ r = some d ∧ itemsOf d = some ds ∧ Q (srcOf d r) (enumD 0 ds) Γ
theorem w_Enum {Q : Src → List D → Env → Prop} (h : ma Γ fun r Γ1 => enk r Γ1 Q) : mEnum ma Γ Q := h
theorem w_enum {Q : Src → List D → Env → Prop} {ds : List D} (h1 : rd Γ r = some d) (h2 : itemsOf d = some ds) (h : Q (srcOf d r) (enumD 0 ds) Γ) : enk r Γ Q := ⟨_, _, h1, h2, h⟩
theorem w_Comp {Q : QE} {vs : List Nat} (h : mi Γ fun src items Γ1 => compM src mg mt me vs (fun acc Γ2 => Q (.fr (.lst acc)) Γ2) items [] Γ1) : mComp mi mg mt me vs Γ Q := h
theorem e_yes {Q : Bool → Env → Prop} (h : Q true Γ) : mYes Γ Q := h
/-! the ends -/
theorem d_val {ms : List Md} {Qd : Bool → D → List D → Prop} {ds : List D} (h1 : iosD ms Γ = ds) (h : Qd false d ds) : rtD ms Qd (.val d) Γ := by subst h1; exact h
theorem d_fr {ms : List Md} {Qd : Bool → D → List D → Prop} {ds : List D} (h1 : iosD ms Γ = ds) (h : Qd true d ds) : rtD ms Qd (.fr d) Γ := by subst h1; exact h
theorem d_pl {ms : List Md} {Qd : Bool → D → List D → Prop} {ds : List D} (h0 : Γ[i]? = some (.ow d)) (h1 : iosD ms Γ = ds) (h : Qd true d ds) : rtD ms Qd (.pl i) Γ := by subst h1; exact ⟨_, h0, h⟩
end
/-! slots that may be stored to -/
def fr (s : Sl) : Bool := freeB [s] 0
theorem i_take {b : D} {many : Int} {Q : Bool → D → List D → Prop} {E : EdT} (hb : BagD b) (h1 : 0 < many) (h2 : many < 2 ^ 256) (h : ∀ k b', 0 ≤ k → k < many → BagD b' → Q false (.int k) [b']) : takeD [b, .int many] Q E := ⟨b, many, rfl, hb, h1, h2, h⟩
theorem strOk_app {a b : Str} (h1 : PyData.strOk a = true) (h2 : PyData.strOk b = true) : PyData.strOk (a ++ b) = true := by
  unfold PyData.strOk at *
  rw [show (a ++ b).cps = a.cps ++ b.cps from rfl, Array.all_append, h1, h2]
  rfl
theorem strOk_of (s : String) : PyData.strOk (Str.ofString s) = true := by
  rw [Str.ofString_eq_toList]
  unfold PyData.strOk
  rw [Array.all_eq_true']
  intro x hx
  simp only [List.mem_toArray, List.mem_map] at hx
  obtain ⟨c, _, rfl⟩ := hx
  have h := c.valid
  have : c.toNat < 1114112 := by
    have h : c.val.toNat.isValidChar := h
    show c.val.toNat < 1114112
    unfold Nat.isValidChar at h
    omega
  exact decide_eq_true this
theorem strOk_textFrom : ∀ (ts : List Str) (k : Nat) (acc : Str), (∀ t ∈ ts, PyData.strOk t = true) → PyData.strOk acc = true → PyData.strOk (textFrom k acc ts) = true
  | [], _, acc, _, h => h
  | t :: ts, k, acc, h, h2 => strOk_textFrom ts (k + 1) _ (fun x hx => h x (List.mem_cons_of_mem _ hx)) (strOk_app (strOk_app h2 (by split <;> exact strOk_of _)) (h t (List.mem_cons_self ..)))
theorem cut1 (z : D) (r : List D) : DL.cutD (z :: r) (some 1) none = r := by
  simp [DL.cutD, HT.sIx]
theorem i_sl1 {d : D} {ds : List D} {Q : Res → Prop} (h : Q (.fr (.lst ds))) : slD (.lst (d :: ds)) (some 1) none Q := by
  show Q (.fr (.lst (DL.cutD (d :: ds) (some 1) none)))
  rw [cut1]; exact h
end DL
/-! the data layer, part 17: own classes: the rules on values -/
namespace DL
open PySem PySem.Spec PyProof.Rows L2
section
variable {X : Cx} {e : Expr} {st : Stmt} {sts : List Stmt}
def tNeverS : TS := fun _ _ _ => False
theorem ps_never : PS X st tNeverS := ⟨fun _ _ _ _ _ _ h => h.elim⟩
def mNeverS : DTS := fun _ _ => False
variable {C : Ctx}
theorem ds_never : DS X C st tNeverS mNeverS := ⟨ps_never, fun _ _ _ _ _ _ _ h _ => h.elim⟩
end
section
variable {X : Cx} {k : Nat} {f C p g : Addr} {fd : FuncData} {ps : List Str} {sp : Sp} {dvs : List V} {ds : List Value} {x m : Str} {pos apos p1 : Pos} {o e : Expr} {es : List Expr} {t : TA} {ta : TE} {E : XK}
theorem under_guards {A : Around} {C : Addr} {us : List Value} {kw : List (Str × Value)} : (A.under (.builtin "type.__call__" ⟨.ref C :: us, kw⟩)).guards = A.guards := by
  first
  | rfl
  | simp [Around.under, Code.weight, Code.isCreation, Code.isGuard, Code.isCaller, Code.frames, Code.isFrame, guardIds]
theorem run_makeG {pins : List (Addr × Obj)} {σ : L2.St} {H : Hp} {s : Shared} {Q : VK} {us : List Value} {vs : List V} (M : Mk X.K C f) (F : FnG X.prog X.w X.K X.mg X.base k f fd ps sp) (hg : X.A.guards = some []) (hr : Room (k + 1) X.A) (hb : Binds X.K fd ps ds) (hd : Vals dvs ds)
    (hx : Passes (L2.CX X.prog X.w) X E) (I : Inv X pins σ H s) (r : Vals vs us)
    (h : ∀ x dx, H x = none → H dx = none → dx ≠ x → sp (.ref x :: (vs ++ dvs)) (upd (upd H dx (.own x)) x (.ins C dx [])) (fun v H2 => v = .non ∧ Q (.ref x) H2) E) :
    wpAny (model X.prog X.w) X.A (call (.ref C) us) (EP X pins σ Q) X.xe s := by
  have hq := h (s.heap.objs.size + 1) s.heap.objs.size (I.hok.fresh (Nat.le_succ _)) (I.hok.fresh (Nat.le_refl _)) (Nat.ne_of_lt (Nat.lt_succ_self _))
  have I2 := Inv.made (C := C) I
  have r2 : Vals (V.ref (s.heap.objs.size + 1) :: (vs ++ dvs)) (Value.ref (s.heap.objs.size + 1) :: (us ++ ds)) := .cons rfl (r.append hd)
  have hl : (Value.ref (s.heap.objs.size + 1) :: us ++ ds).length = ps.length := by
    have e := r2.length
    rw [F.len _ _ _ _ hq] at e
    exact e.symm
  refine wpAny_call (make_map (f := f) I.kIn M.makes M.init (beq_iff_eq.mp M.fn) (codeAny_mono (F.go _ (under_guards.trans hg) (hr.make C us []) X.stack _ _ ⟨Value.ref (s.heap.objs.size + 1) :: us, []⟩ (Value.ref (s.heap.objs.size + 1) :: (us ++ ds)) _ _ E
    (I2.env0.make C us []) (hb _ (Value.ref (s.heap.objs.size + 1) :: us) I2.kIn hl) r2 hq) fun r s' hq' => ?_))
  cases r with
  | error e => exact hx pins σ _ _ e s' I2 hq'
  | ok fl =>
    cases fl with
    | ret u =>
      obtain ⟨v, H', I3, rv, ev, q3⟩ := I2.after hq'
      subst ev
      exact ⟨rv, ⟨V.ref (s.heap.objs.size + 1), H', I3, rfl, q3⟩⟩
    | next => exact False.elim hq'
    | brk => exact False.elim hq'
    | cont => exact False.elim hq'
/-- C(..) -/
theorem pe_makeG (M : Mk X.K C f) (F : FnG X.prog X.w X.K X.mg X.base k f fd ps sp) (hgu : X.A.guards = some []) (hr : Room (k + 1) X.A) (hg : Gl X x) (hm : X.mg x = some (.ref C)) (hb : Binds X.K fd ps ds) (hd : Vals dvs ds) (hx : Passes (L2.CX X.prog X.w) X E)
    (ha : PA X (e :: es) t) (hdb : (x == ("__debug__" : Str)) = false := by decide) (he : starEach (e :: es) X.env = (false, eval e X.env) :: starEach es X.env := by rfl) (hpl : (backTo pos (starEach es X.env)).any (·.1) = false := by rfl) :
    PE X (.Call (.Name x p1) (e :: es) [] pos) (tMake C sp dvs E t) := by
  refine ⟨fun pins s σ H Q I h => ?_⟩
  refine wpAny_Call_Name_kw (ld_glob I hg hm ?_ hdb)
  refine PySem.W.callWith_K (h₀ := X.base) I.ok.mod.kin M.kp (thn (ha.run pos pins s σ H _ I h) fun us s1 ⟨vs, H1, I1, r, q⟩ => ⟨I1.kIn, ?_⟩) he hpl
  exact run_makeG M F hgu hr hb hd hx I1 r q
/-- cls(..), cls a local name -/
def tMakeL (i : Nat) (C : Addr) (sp : Sp) (dvs : List V) (E : XK) (t : TA) : TE := fun σ H Q => σ[i]? = some (some (.ref C)) ∧ tMake C sp dvs E t σ H Q
theorem pe_makeL {i : Nat} (M : Mk X.K C f) (F : FnG X.prog X.w X.K X.mg X.base k f fd ps sp) (hgu : X.A.guards = some []) (hr : Room (k + 1) X.A) (hN : X.N[i]? = some x) (hv : Vis X.env.scope x) (hb : Binds X.K fd ps ds) (hd : Vals dvs ds) (hx : Passes (L2.CX X.prog X.w) X E)
    (ha : PA X (e :: es) t) (hdb : (x == ("__debug__" : Str)) = false := by decide) (hcd : (x == ("__classdict__" : Str)) = false := by decide) (he : starEach (e :: es) X.env = (false, eval e X.env) :: starEach es X.env := by rfl) (hpl : (backTo pos (starEach es X.env)).any (·.1) = false := by rfl) :
    PE X (.Call (.Name x p1) (e :: es) [] pos) (tMakeL i C sp dvs E t) := by
  refine ⟨fun pins s σ H Q I h => ?_⟩
  obtain ⟨hs, ht⟩ := h
  refine wpAny_Call_Name_kw (thn ((pe_var (pos := p1) hN hv hdb hcd).run pins s σ H (fun v H1 => v = .ref C ∧ H1 = H) I ⟨.ref C, hs, rfl, rfl⟩) fun u s1 ⟨v, H1, I1, r1, q1⟩ => ?_)
  obtain ⟨rfl, rfl⟩ := q1
  cases r1
  refine PySem.W.callWith_K (h₀ := X.base) I.ok.mod.kin M.kp (thn (ha.run pos pins s1 σ _ _ I1 ht) fun us s2 ⟨vs, H2, I2, r, q⟩ => ⟨I2.kIn, ?_⟩) he hpl
  exact run_makeG M F hgu hr hb hd hx I2 r q
/-- o.m(..) -/
theorem pe_methG {pl : Sem Bool} (he : PE X o ta) (c : Cls X.K C) (hm : Meth X.K C m f) (F : FnG X.prog X.w X.K X.mg X.base k f fd ps sp) (hg : X.A.guards = some []) (hr : Room k X.A) (hb : Binds X.K fd ps ds) (hd : Vals dvs ds) (hx : Passes (L2.CX X.prog X.w) X E) (ha : PA X (e :: es) t)
    (hst : starEach (e :: es) X.env = (false, eval e X.env) :: starEach es X.env := by rfl) (hpl : (backTo pos (starEach es X.env)).any (·.1) = false := by rfl)
    (ht : eval (.Call (.Attribute o m apos) (e :: es) [] pos) X.env = (do
      let ov ← eval o X.env
      standAt apos.atName
      let (f, first) ← holding [ov] (getMethod ov m pl)
      callWith pos f first (backTo pos (starEach (e :: es) X.env)) (backToKw pos (keywordEach [] X.env))) := by rfl) :
    PE X (.Call (.Attribute o m apos) (e :: es) [] pos) (tMeth C m sp dvs E ta t) := by
  refine ⟨fun pins s σ H Q I h => ?_⟩
  refine PySem.W.methodCall_KW (pl := pl) (thn (he.run pins s σ H _ I h) fun u s1 ⟨x, H1, I1, rx, a, dx, fs, ex, ea, l, q⟩ => ?_) ht
  subst ex
  obtain rfl : u = Value.ref a := rx
  refine getmeth_ok I1 ea c hm l ?_
  refine PySem.W.callWith_K (first := [.ref a]) (h₀ := X.base) I.ok.mod.kin hm.kp (thn (ha.run pos pins s1 σ H1 _ I1 q) fun us s2 ⟨vs, H2, I2, r, q2⟩ => ⟨I2.kIn, ?_⟩) hst hpl
  exact run_g (us := .ref a :: us) (vs := .ref a :: vs) F hg hr hb hd hx I2 (.cons rfl r) q2
theorem pe_methG0 {pl : Sem Bool} (he : PE X o ta) (c : Cls X.K C) (hm : Meth X.K C m f) (F : FnG X.prog X.w X.K X.mg X.base k f fd ps sp) (hg : X.A.guards = some []) (hr : Room k X.A) (hb : Binds X.K fd ps ds) (hd : Vals dvs ds) (hx : Passes (L2.CX X.prog X.w) X E)
    (ht : eval (.Call (.Attribute o m apos) [] [] pos) X.env = (do
      let ov ← eval o X.env
      standAt apos.atName
      let (f, first) ← holding [ov] (getMethod ov m pl)
      callWith pos f first (backTo pos (starEach [] X.env)) (backToKw pos (keywordEach [] X.env))) := by rfl) :
    PE X (.Call (.Attribute o m apos) [] [] pos) (tMeth C m sp dvs E ta tNil) := by
  refine ⟨fun pins s σ H Q I h => ?_⟩
  refine PySem.W.methodCall_KW (pl := pl) (thn (he.run pins s σ H _ I h) fun u s1 ⟨x, H1, I1, rx, a, dx, fs, ex, ea, l, q⟩ => ?_) ht
  subst ex
  obtain rfl : u = Value.ref a := rx
  refine getmeth_ok I1 ea c hm l ?_
  exact PySem.W.callWith_K0 (first := [.ref a]) I1.kIn hm.kp (run_g (us := [.ref a]) (vs := [.ref a]) F hg hr hb hd hx I1 (.cons rfl .nil) q)
/-- o.f, a property -/
theorem pe_propG {f : Str} (he : PE X e ta) (c : Cls X.K C) (hp : PropOf X.K C f p g) (F : FnG X.prog X.w X.K X.mg X.base k g fd ps sp) (hg : X.A.guards = some []) (hr : Room (k + 1) X.A) (hb : Binds X.K fd ps ds) (hd : Vals dvs ds) (hx : Passes (L2.CX X.prog X.w) X.nox E)
    (hab : attributeBase e f X.env (eval e X.env) = eval e X.env := by rfl) : PE X (.Attribute e f pos) (tProp C sp dvs E ta) := by
  refine ⟨fun pins s σ H Q I h => ?_⟩
  refine attr_of hab (thn (he.run pins s σ H _ I h) fun u s1 ⟨x, H1, I1, rx, a, dx, fs, ex, ea, q⟩ => ?_)
  subst ex
  obtain rfl : u = Value.ref a := rx
  obtain ⟨mA, O, _, _, _, _⟩ := ins_get I1.hok ea
  obtain ⟨od, J, _⟩ := O.look
  obtain ⟨rest, hrec⟩ := hp.rec_
  have I2 := I1.tok (s1.toks + 1)
  have hl : ([Value.ref a] ++ ds).length = ps.length := by
    rw [← F.len _ _ _ _ q]
    show ds.length + 1 = dvs.length + 1
    rw [hd.length]
  have hc : (PySem.W.clsIn X.K C).isSome = true := by
    obtain ⟨cd, hc, _⟩ := PySem.W.any_some c.hd
    rw [hc]
    rfl
  refine PySem.W.get_bind I1.kIn J (PySem.W.plainGet_of (c.get f)).1 (PySem.W.findObj_data hc hp.at_ hp.get hp.tak) (PySem.W.plainGet_of (c.get f)).2 (wpAny_call (PySem.W.prop_get (s := { s1 with toks := s1.toks + 1 }) I1.kIn hrec ?_))
  refine codeAny_mono (F.go X.A.in1 hg hr.in1 X.stack { s1 with toks := s1.toks + 1 } H1 ⟨[.ref a], []⟩ (.ref a :: ds) (.ref a :: dvs) Q E I2.env0.in1 (hb _ [.ref a] I2.kIn hl) (.cons rfl hd) q) fun r s' hq => ?_
  cases r with
  | error er => exact False.elim (hx pins σ H1 { s1 with toks := s1.toks + 1 } er s' (I2.wish _) hq)
  | ok fl =>
    cases fl with
    | ret u =>
      obtain ⟨v, H', I3, rv, q3⟩ := I2.after hq
      show wpAny _ _ (handedOut u) _ _ _
      rw [PySem.W.handedOut_of (handed_of rv)]
      exact wpAny_pure ⟨v, H', I3, rv, q3⟩
    | next => exact False.elim hq
    | brk => exact False.elim hq
    | cont => exact False.elim hq
/-- C.m(..), m a classmethod -/
theorem pe_cmethG {pl : Sem Bool} {mc : Value} (he : PE X o ta) (r : ClX.CRead X.K C mc) (c : ClX.CMet X.K C mc m p g) (F : FnG X.prog X.w X.K X.mg X.base k g fd ps sp) (hg : X.A.guards = some []) (hr : Room k X.A) (hb : Binds X.K fd ps []) (hx : Passes (L2.CX X.prog X.w) X E) (ha : PA X (e :: es) t)
    (hst : starEach (e :: es) X.env = (false, eval e X.env) :: starEach es X.env := by rfl) (hpl : (backTo pos (starEach es X.env)).any (·.1) = false := by rfl)
    (ht : eval (.Call (.Attribute o m apos) (e :: es) [] pos) X.env = (do
      let ov ← eval o X.env
      standAt apos.atName
      let (f, first) ← holding [ov] (getMethod ov m pl)
      callWith pos f first (backTo pos (starEach (e :: es) X.env)) (backToKw pos (keywordEach [] X.env))) := by rfl) :
    PE X (.Call (.Attribute o m apos) (e :: es) [] pos) (ClX.tCMeth C sp E ta t) := by
  refine ⟨fun pins s σ H Q I h => ?_⟩
  refine PySem.W.methodCall_KW (pl := pl) (thn (he.run pins s σ H _ I h) fun u s1 ⟨x, H1, I1, rx, ex, q⟩ => ?_) ht
  subst ex
  obtain rfl : u = Value.ref C := rx
  refine ClX.getmethcm_ok I1 r c fun s2 I2 => ?_
  refine ClX.callwith_cm I2 (ClX.base_none I1 (Nat.le_refl _)) c.fi (thn (ha.run pos _ s2 σ H1 _ I2 q) fun us s3 ⟨vs, H2, I3, rv, q2⟩ => ⟨⟨ClX.pin_at I3, I3.kIn⟩, ?_⟩) hst hpl
  have z : wpAny (model X.prog X.w) X.A (call (.ref s1.heap.objs.size) us) (EP X ((s1.heap.objs.size, PySem.W.methodObj (.ref g) (.ref C)) :: pins) σ Q) X.xe s3 :=
    wpAny_call (PySem.W.method_call (ClX.pin_at I3) (codeAny_mono (F.go X.A hg hr X.stack s3 H2 ⟨.ref C :: us, []⟩ (.ref C :: us) (.ref C :: vs) Q E I3.env0 (by
      have hl : (Value.ref C :: us).length = ps.length := by
        rw [← F.len _ _ _ _ q2, List.length_cons, List.length_cons, rv.length]
      simpa using hb s3 (.ref C :: us) I3.kIn (by simpa using hl)) (.cons rfl rv) q2) fun r s' hq => by
        cases r with
        | error e => exact hx _ σ H2 s3 e s' I3 hq
        | ok fl =>
          cases fl with
          | ret u => exact I3.after hq
          | next => exact False.elim hq
          | brk => exact False.elim hq
          | cont => exact False.elim hq))
  exact thn z fun _ _ y => ClX.unpinE y
end
end DL
/-! the data layer, part 18: own classes over data -/
namespace DL
open PySem PySem.Spec PyProof.Rows L2
/-! ### fields -/
def fldD : List Str → List D → Str → Option D
  | n :: ns, d :: ds, f => if (f == n) = true then some d else fldD ns ds f
  | _, _, _ => none
def putN (f : Str) : List Str → List Str
  | [] => [f]
  | n :: ns => if n = f then n :: ns else n :: putN f ns
def putDs (f : Str) (d : D) : List Str → List D → List D
  | n :: ns, e :: ds => if n = f then d :: ds else e :: putDs f d ns ds
  | _, ds => ds ++ [d]
section
variable {K : Fg} {H : Hp}
theorem fld_at {f : Str} : ∀ {fs : List (Str × V)} {ds : List D} {d : D}, Reps K H (fs.map (·.2)) ds → fldD (fs.map (·.1)) ds f = some d → ∃ v, fs.lookup f = some v ∧ Rep K H v d
  | [], _, _, r, e => by cases r; cases e
  | (n, v) :: fs, _, d, .cons (d := d') (ds := ds) h r, e => by
    rw [List.map_cons, fldD] at e
    by_cases c : (f == n) = true
    · rw [if_pos c] at e
      cases e
      exact ⟨v, by rw [List.lookup, c], h⟩
    · rw [if_neg c] at e
      obtain ⟨w, h1, h2⟩ := fld_at r e
      have c' : (f == n) = false := by simpa using c
      exact ⟨w, by rw [List.lookup, c']; exact h1, h2⟩
theorem put_at {f : Str} {y : V} {d : D} (hy : Rep K H y d) : ∀ {fs : List (Str × V)} {ds : List D}, Reps K H (fs.map (·.2)) ds → (putF f y fs).map (·.1) = putN f (fs.map (·.1)) ∧ Reps K H ((putF f y fs).map (·.2)) (putDs f d (fs.map (·.1)) ds)
  | [], _, .nil => ⟨rfl, .cons hy .nil⟩
  | (n, v) :: fs, _, .cons (d := d') (ds := ds) h r => by
    unfold putF
    rw [List.map_cons, putN, putDs]
    by_cases c : n = f
    · rw [if_pos c, if_pos c, if_pos c]
      exact ⟨rfl, .cons hy r⟩
    · rw [if_neg c, if_neg c, if_neg c]
      obtain ⟨h1, h2⟩ := put_at hy r
      exact ⟨by rw [List.map_cons, h1], .cons h h2⟩
theorem look_none {m : Str} : ∀ {fs : List (Str × V)}, m ∉ fs.map (·.1) → fs.lookup m = none
  | [], _ => rfl
  | (n, v) :: fs, h => by
    rw [List.map_cons, List.mem_cons, not_or] at h
    have c : (m == n) = false := by simpa using h.1
    rw [List.lookup, c]
    exact look_none h.2
end
/-! ### the readings -/
def mFld (C : Addr) (f : Str) (mo : DTE) : DTE := fun Γ Q => mo Γ fun r Γ1 => ∃ ns ds d, rd Γ1 r = some (.obj C ns ds) ∧ fldD ns ds f = some d ∧ Q (.val d) Γ1
def mSetF (C : Addr) (f : Str) (mo me : DTE) : DTS := fun D Γ => me Γ fun r Γ1 => mo Γ1 fun ro Γ2 => ∃ d i ns ds, dat r = some d ∧ ro = .pl i ∧ cont Γ2[i]? = some (.obj C ns ds) ∧ ns.length < 1000 ∧ ∃ Γ3, setC Γ2 i (.obj C (putN f ns) (putDs f d ns ds)) = some Γ3 ∧ D.nx Γ3
/-- the receiver and the arguments -/
def mSelf (C : Addr) (m : Str) (mo : DTE) (ma : DTA) : DTA := fun Γ Q => mo Γ fun r Γ1 => (∃ ns ds, rd Γ1 r = some (.obj C ns ds) ∧ m ∉ ns) ∧ ma Γ1 fun rs Γ2 => Q (r :: rs) Γ2
def mSelf1 (C : Addr) (mo : DTE) : DTA := fun Γ Q => mo Γ fun r Γ1 => (∃ ns ds, rd Γ1 r = some (.obj C ns ds)) ∧ Q [r] Γ1
def mCls (C : Addr) (ma : DTA) : DTA := fun Γ Q => ma Γ fun rs Γ1 => Q (.val (.cls C) :: rs) Γ1
def mMake (C : Addr) (ms : List Md) (sd : DSp) (ma : DTA) : DTE := fun Γ Q => ma Γ fun rs Γ1 => ∃ ds, argsD Γ1 ms rs = some ds ∧ apartB ms rs = true ∧
  sd (.obj C [] [] :: ds) (fun b d ds' => d = .non ∧ ∃ d0 r0 Γ2, ds' = d0 :: r0 ∧ putsD (mPls ms rs) r0 Γ1 = some Γ2 ∧ Q (.fr d0) Γ2) noX
def mMakeL (i : Nat) (C : Addr) (ms : List Md) (sd : DSp) (ma : DTA) : DTE := fun Γ Q => Γ[i]? = some (.sh (.cls C)) ∧ mMake C ms sd ma Γ Q
/-- isinstance(x, C) -/
def isO (C : Addr) : D → Option Bool
  | .obj C' _ _ => if C' = C then some true else none
  | .cls _ => none
  | .xcl _ _ => none
  | .dtl _ => none
  | .pnK _ _ => none
  | .pnT _ _ => none
  | _ => some false
def mIsO (C : Addr) (ma : DTE) : DTE := fun Γ Q => ma Γ fun r Γ1 => ∃ d b, rd Γ1 r = some d ∧ isO C d = some b ∧ Q (.val (.bl b)) Γ1
/-- x == y by the class's own == -/
def eqk (F : Bool → Bool) (Γ2 : Env) (Q : QE) : Bool → D → List D → Prop := fun b d ds' => ∃ Γ3, putsD [] ds' Γ2 = some Γ3 ∧ (Γ3 = Γ2 ∧ ∃ z, (if b = true then frOf d else .val d) = .val (.bl z) ∧ Q (.val (.bl (F z))) Γ2)
theorem eqk_in {F : Bool → Bool} {Γ2 : Env} {Q : QE} {z : Bool} (h : Q (.val (.bl (F z))) Γ2) : eqk F Γ2 Q false (.bl z) [] := ⟨Γ2, rfl, rfl, z, rfl, h⟩
def mEqO (C : Addr) (sd : DSp) (F : Bool → Bool) (ma mb : DTE) : DTE := fun Γ Q => ma Γ fun ra Γ1 => mb Γ1 fun rb Γ2 => ∃ ns ds ns' ds', dat ra = some (.obj C ns ds) ∧ dat rb = some (.obj C ns' ds') ∧
  sd [.obj C ns ds, .obj C ns' ds'] (eqk F Γ2 Q) noX
section
variable {C : Ctx} {C0 : Addr} {f m : Str} {to ta tb te : TE} {mo ma mb me : DTE} {t : TA} {mt : DTA} {ms : List Md} {sd : DSp} {E : XK}
theorem sim_fld {K : Fg} (hK : K = C.K) (cl : Cls K C0) (na : NoAttr K C0 f) (ho : SimE C to mo) : SimE C (tFld K to f) (mFld C0 f mo) := fun Γ O σ H Qd Q R h k => by
  refine ho Γ O σ H _ _ R h fun r Γ1 x H1 R1 e1 q1 => ?_
  obtain ⟨ns, ds, d, h1, h2, q⟩ := q1
  obtain ⟨a, dx, fs, rfl, hH, rfl, rr⟩ := (R1.pend.b2 R1.rel h1).obj
  obtain ⟨v, hv, rv⟩ := fld_at rr h2
  exact ⟨a, C0, dx, fs, v, rfl, hH, cl, na, hv, k (.val d) Γ1 v H1 ⟨R1.rel, rv⟩ (.val e1.1) q⟩
theorem sim_setF {K : Fg} (hK : K = C.K) (cl : Cls K C0) (na : NoAttr K C0 f) (ho : SimE C to mo) (he : SimE C te me) : SimS C (sFld K to te f) (mSetF C0 f mo me) := fun Γ O σ H D Dd R h L => by
  refine he Γ O σ H _ _ R h fun r Γ1 y H1 R1 e1 q1 => ?_
  refine ho Γ1 O σ H1 _ _ R1.rel q1 fun ro Γ2 x H2 R2 e2 q2 => ?_
  obtain ⟨d, i, ns, ds, hd, rfl, hc, hl, Γ3, hs, q⟩ := q2
  obtain ⟨l, o, rfl, hl2, ho2⟩ := place_at R2.rel hs R2.2 hc
  cases ho2 with
  | obj hn rr =>
    rename_i dx fs
    subst hn
    have ry : Rep C.K (hide O H2) y d := (R1.pend.mono e2.1).dat hd
    obtain ⟨p1, p2⟩ := put_at (f := f) ry rr
    obtain ⟨R3, e3⟩ := set_relO (o := .ins C0 dx (putF f y fs)) R2.rel hs R2.2 (.obj p1 p2)
    exact ⟨l, C0, dx, fs, rfl, hl2, cl, na, by rw [List.length_map] at hl; exact hl, L.nx Γ3 O σ _ R3 q⟩
theorem sim_meth (ho : SimE C to mo) (ha : SimA C t mt) : SimE C (tMeth C0 m (spD C.K ms sd) [] E to t) (mCall ms sd (mSelf C0 m mo mt)) := fun Γ O σ H Qd Q R h k => by
  refine ho Γ O σ H _ _ R h fun r Γ1 x H1 R1 e1 q1 => ?_
  obtain ⟨⟨ns, ds0, h1, h2⟩, q1⟩ := q1
  obtain ⟨a, dx, fs, rfl, hH, rfl, rr⟩ := (R1.pend.b2 R1.rel h1).obj
  refine ⟨a, dx, fs, rfl, hH, look_none h2, ?_⟩
  refine ha Γ1 O σ H1 _ _ R1.rel q1 fun rs Γ2 vs H2 R2 p2 e2 q2 => ?_
  obtain ⟨ds, hd, hap, hsd⟩ := q2
  rw [List.append_nil]
  exact call_core (rs := r :: rs) R2 (.cons (R1.pend.mono e2) p2) hd hap hsd (fun r' Γ' v H' r1 se q => k r' Γ' v H' r1 (.after (L2.Same.trans e1.1 e2) se) q) fun _ _ _ _ _ _ _ _ _ _ z => z.elim
theorem sim_prop (ho : SimE C to mo) : SimE C (tProp C0 (spD C.K ms sd) [] E to) (mCall ms sd (mSelf1 C0 mo)) := fun Γ O σ H Qd Q R h k => by
  refine ho Γ O σ H _ _ R h fun r Γ1 x H1 R1 e1 q1 => ?_
  obtain ⟨⟨ns, ds0, h1⟩, ds, hd, hap, hsd⟩ := q1
  obtain ⟨a, dx, fs, rfl, hH, rfl, rr⟩ := (R1.pend.b2 R1.rel h1).obj
  refine ⟨a, dx, fs, rfl, hH, ?_⟩
  exact call_core (rs := [r]) R1.rel (.cons R1.pend .nil) hd hap hsd (fun r' Γ' v H' r1 se q => k r' Γ' v H' r1 (.after e1.1 se) q) fun _ _ _ _ _ _ _ _ _ _ z => z.elim
theorem sim_cmeth (ha : SimA C t mt) : SimE C (ClX.tCMeth C0 (spD C.K ms sd) E (tC (.ref C0)) t) (mCall ms sd (mCls C0 mt)) := fun Γ O σ H Qd Q R h k => by
  refine ⟨rfl, ?_⟩
  refine ha Γ O σ H _ _ R h fun rs Γ2 vs H2 R2 p2 e2 q2 => ?_
  obtain ⟨ds, hd, hap, hsd⟩ := q2
  exact call_core (rs := .val (.cls C0) :: rs) R2 (.cons (.cls C0) p2) hd hap hsd (fun r' Γ' v H' r1 se q => k r' Γ' v H' r1 (.after e2 se) q) fun _ _ _ _ _ _ _ _ _ _ z => z.elim
/-- the arguments at a heap with one new owned object more -/
theorem ArgsOk.lift {K : Fg} {O O' : List Addr} {H H' : Hp} {x : Addr} (e : Same (hide O H) (hide O' H')) (kp : ∀ l o, H l = some o → H' l = some o) (sb : ∀ a ∈ O, a ∈ O') (hx : H x = none) {Ms : List Addr} {ms : List Md} {vs : List V} {ds : List D} (A : ArgsOk K O H Ms ms vs ds) : ArgsOk K O' H' (x :: Ms) ms vs ds := by
  induction A with
  | nil => exact .nil
  | S h _ ih => exact .S (h.mono e) ih
  | B h _ ih =>
    refine .B ?_ ih
    rcases h with h | ⟨l, o, h1, h2, h3, h4⟩
    · exact .inl (h.mono e)
    · exact .inr ⟨l, o, h1, kp l o h2, fun z => (List.mem_cons.mp z).elim (fun z => by rw [z, hx] at h2; cases h2) h3, h4.mono e⟩
  | M h1 h2 h3 _ ih => exact .M (sb _ h1) (kp _ _ h2) (h3.mono e) ih
theorem sim_make (ha : SimA C t mt) : SimE C (tMake C0 (spD C.K (.M :: ms) sd) [] E t) (mMake C0 ms sd mt) := fun Γ O σ H Qd Q R h k => by
  refine ha Γ O σ H _ _ R h fun rs Γ1 vs H1 R1 p1 e1 q1 => ?_
  obtain ⟨ds, hd, hap, hsd⟩ := q1
  intro x dx hx hdx hne
  rw [List.append_nil]
  have hx' : (upd H1 dx (.own x)) x = none := by rw [upd_ne (Ne.symm hne)]; exact hx
  have R1' : RelO C Γ1 O σ (upd H1 dx (.own x)) := R1.alloc hdx
  have R2 : RelO C Γ1 (x :: O) σ (upd (upd H1 dx (.own x)) x (.ins C0 dx [])) := R1'.allocO hx'
  have eS : Same (hide O H1) (hide (x :: O) (upd (upd H1 dx (.own x)) x (.ins C0 dx []))) := L2.Same.trans (hide_new hdx) (hide_newO hx')
  have kp : ∀ l o, H1 l = some o → (upd (upd H1 dx (.own x)) x (.ins C0 dx [])) l = some o := fun l o e => by
    rw [upd_ne (ne_of_none e hx), upd_ne (ne_of_none e hdx)]; exact e
  unfold apartB at hap
  rw [Bool.and_eq_true] at hap
  have nd : (mPls ms rs).Nodup := of_decide_eq_true hap.1
  have hb : ∀ i ∈ bPls ms rs, i ∉ mPls ms rs := fun i hi => of_decide_eq_true (List.all_eq_true.mp hap.2 i hi)
  obtain ⟨hc, hmu⟩ := chg_of R1 p1 hd
  have hargs := (args_of R1 hc hmu p1 hd hb).lift eS kp (fun a ha => List.mem_cons_of_mem _ ha) hx
  have ndA := chg_nodup R1 hc hmu nd
  have xO : x ∉ O := R1.notin hx
  have xA : x ∉ mAddrs ms vs := fun z => by
    obtain ⟨i, hi, e⟩ := hc.at z
    exact xO (R1.mutIn (.inl ⟨hmu i hi, e⟩))
  refine ⟨x :: O, .obj C0 [] [] :: ds, _, noX, .M List.mem_cons_self upd_same (.obj rfl .nil) hargs, R2.al, List.nodup_cons.mpr ⟨xA, ndA⟩, hsd, fun v H' O' b d ds' post hms hres hq => ?_, fun _ _ _ _ _ _ _ _ _ _ _ z => z.elim⟩
  obtain ⟨rfl, d0, r0, Γ2, rfl, hput, hq⟩ := hq
  have hv : v = .non := by
    cases b with
    | true => rcases hres with ⟨_, _, _, _, _, _, z⟩ | ⟨_, _, _, _, _, _, z, _⟩ <;> cases z
    | false => have z : Rep C.K (hide O' H') v .non := hres; cases z; rfl
  refine ⟨hv, ?_⟩
  cases hms with
  | M hox hoo hms =>
    rename_i o'
    have Rx := R2.updFree (p := x) (o := o') List.mem_cons_self (R1.fresh0 hx) (fun i m => xO (R1.mutIn m)) (fun q hq z => xO (z ▸ (R1.uu q hq).2.1)) hoo.tk
    have Af : Aft C Γ1 (x :: O) σ (upd (upd (upd H1 dx (.own x)) x (.ins C0 dx [])) x o') (mAddrs ms vs) O' H' := by
      refine ⟨post.sub, fun a ha => ?_, post.al, fun a o e ha => ?_⟩
      · by_cases hax : a = x
        · exact .inl (hax ▸ List.mem_cons_self)
        · rcases post.new a ha with z | z
          · exact .inl z
          · exact .inr (by rw [upd_ne hax]; exact z)
      · by_cases hax : a = x
        · subst hax
          rw [upd_same] at e
          cases e
          exact hox
        · rw [upd_ne hax] at e
          exact post.fr a o e fun z => (List.mem_cons.mp z).elim hax ha
    obtain ⟨R3, e3⟩ := rel_after Rx hc nd hmu hput Af (now_of hms)
    rw [hide_mut List.mem_cons_self] at e3
    have mO : ∀ i a, MutAt Γ2 σ i a → a ∈ O := fun i a m => R1.mutIn (mutAt_put hput nd hmu m)
    have uO : ∀ q ∈ C.U, q.1 ∈ O := fun q hq => (R1.uu q hq).2.1
    obtain ⟨R4, e4⟩ := R3.shrink (O := O) (fun a ha => post.sub a (List.mem_cons_of_mem _ ha)) mO uO R1.oo
    obtain ⟨R5, e5⟩ := R3.shrink (O := x :: O) post.sub (fun i a m => List.mem_cons_of_mem _ (mO i a m)) (fun q hq => List.mem_cons_of_mem _ (uO q hq)) fun a ha => List.mem_cons_of_mem _ (R1.oo a ha)
    exact k (.fr d0) Γ2 _ H' ⟨R4, x, o', rfl, hox, xO, R1.fresh0 hx, hoo.mono e5, R5⟩ (.fr (L2.Same.trans e1 (L2.Same.trans eS (L2.Same.trans e3 e5)))) hq
theorem sim_makeL {i : Nat} (ha : SimA C t mt) : SimE C (tMakeL i C0 (spD C.K (.M :: ms) sd) [] E t) (mMakeL i C0 ms sd mt) := fun Γ O σ H Qd Q R h k => by
  obtain ⟨hi, h⟩ := h
  obtain ⟨v, h1, h2⟩ := R.sl i _ hi
  cases h2
  exact ⟨h1, sim_make ha Γ O σ H Qd Q R h k⟩
end
end DL
/-! the data layer, part 19: own classes: the rules for the printed derivations -/
namespace DL
open PySem PySem.Spec PyProof.Rows L2
section
variable {X : Cx} {C : Ctx} {C0 : Addr} {k : Nat} {g p : Addr} {fd : FuncData} {ps : List Str} {ms : List Md} {sd : DSp} {ta tb to te : TE} {ma mb mo me : DTE} {a b o e : Expr} {es : List Expr} {t : TA} {mt : DTA} {pos apos p1 p2 : Pos} {f m x : Str} {st : Stmt}
theorem de_fld (cl : Cls X.K C0) (na : NoAttr X.K C0 f) (h : DE X C e te me) (hb : attributeBase e f X.env (eval e X.env) = eval e X.env := by rfl) {K0 : Fg} (hK0 : X.K = K0 := by rfl) (hK : K0 = C.K := by rfl) : DE X C (.Attribute e f pos) (tFld K0 te f) (mFld C0 f me) := by
  subst hK0
  exact ⟨pe_fld h.pe hb, sim_fld hK cl na h.sim⟩
theorem ds_fld (cl : Cls X.K C0) (na : NoAttr X.K C0 f) (ho : DE X C o to mo) (he : DE X C e te me) (hs : swapsWith e (some (.Attribute o f apos)) pos.line X.env = pure false := by rfl) {K0 : Fg} (hK0 : X.K = K0 := by rfl) (hK : K0 = C.K := by rfl) :
    DS X C (.Assign [.Attribute o f apos] e pos) (sFld K0 to te f) (mSetF C0 f mo me) := by
  subst hK0
  exact ⟨ps_fld ho.pe he.pe hs, sim_setF hK cl na ho.sim he.sim⟩
theorem de_meth {pl : Sem Bool} (c : Cls X.K C0) (hm : Meth X.K C0 m g) (F : FnG X.prog X.w X.K X.mg X.base k g fd ps (spD X.K ms sd)) (hg : X.A.guards = some []) (hr : Room k X.A) (hb : Binds X.K fd ps []) (ho : DE X C o to mo) (ha : DA X C (e :: es) t mt) {K0 : Fg} (hK0 : X.K = K0 := by rfl) (hK : K0 = C.K := by rfl)
    (hst : starEach (e :: es) X.env = (false, eval e X.env) :: starEach es X.env := by rfl) (hpl : (backTo pos (starEach es X.env)).any (·.1) = false := by rfl)
    (ht : eval (.Call (.Attribute o m apos) (e :: es) [] pos) X.env = (do
      let ov ← eval o X.env
      standAt apos.atName
      let (f, first) ← holding [ov] (getMethod ov m pl)
      callWith pos f first (backTo pos (starEach (e :: es) X.env)) (backToKw pos (keywordEach [] X.env))) := by first | rfl | exact mcall_of (abase_call rfl) fun _ => rfl) :
    DE X C (.Call (.Attribute o m apos) (e :: es) [] pos) (tMeth C0 m (spD K0 ms sd) [] E0 to t) (mCall ms sd (mSelf C0 m mo mt)) := by
  subst hK0
  exact ⟨pe_methG ho.pe c hm F hg hr hb .nil passL ha.pa hst hpl ht, by rw [hK]; exact sim_meth ho.sim ha.sim⟩
theorem de_meth0 {pl : Sem Bool} (c : Cls X.K C0) (hm : Meth X.K C0 m g) (F : FnG X.prog X.w X.K X.mg X.base k g fd ps (spD X.K ms sd)) (hg : X.A.guards = some []) (hr : Room k X.A) (hb : Binds X.K fd ps []) (ho : DE X C o to mo) {K0 : Fg} (hK0 : X.K = K0 := by rfl) (hK : K0 = C.K := by rfl)
    (ht : eval (.Call (.Attribute o m apos) [] [] pos) X.env = (do
      let ov ← eval o X.env
      standAt apos.atName
      let (f, first) ← holding [ov] (getMethod ov m pl)
      callWith pos f first (backTo pos (starEach [] X.env)) (backToKw pos (keywordEach [] X.env))) := by first | rfl | exact mcall_of (abase_call rfl) fun _ => rfl) :
    DE X C (.Call (.Attribute o m apos) [] [] pos) (tMeth C0 m (spD K0 ms sd) [] E0 to tNil) (mCall ms sd (mSelf C0 m mo mNil)) := by
  subst hK0
  exact ⟨pe_methG0 ho.pe c hm F hg hr hb .nil passL ht, by rw [hK]; exact sim_meth ho.sim sim_nil⟩
theorem de_prop (c : Cls X.K C0) (hp : PropOf X.K C0 f p g) (F : FnG X.prog X.w X.K X.mg X.base k g fd ps (spD X.K ms sd)) (hg : X.A.guards = some []) (hr : Room (k + 1) X.A) (hb : Binds X.K fd ps []) (ho : DE X C o to mo) {K0 : Fg} (hK0 : X.K = K0 := by rfl) (hK : K0 = C.K := by rfl)
    (hab : attributeBase o f X.env (eval o X.env) = eval o X.env := by rfl) : DE X C (.Attribute o f pos) (tProp C0 (spD K0 ms sd) [] E0 to) (mCall ms sd (mSelf1 C0 mo)) := by
  subst hK0
  exact ⟨pe_propG ho.pe c hp F hg hr hb .nil passL hab, by rw [hK]; exact sim_prop ho.sim⟩
theorem de_cmeth {pl : Sem Bool} {mc : Value} (r : ClX.CRead X.K C0 mc) (c : ClX.CMet X.K C0 mc m p g) (F : FnG X.prog X.w X.K X.mg X.base k g fd ps (spD X.K ms sd)) (hg : X.A.guards = some []) (hr : Room k X.A) (hb : Binds X.K fd ps []) (ho : PE X (.Name x p2) (tC (.ref C0))) (ha : DA X C (e :: es) t mt) {K0 : Fg} (hK0 : X.K = K0 := by rfl) (hK : K0 = C.K := by rfl)
    (hst : starEach (e :: es) X.env = (false, eval e X.env) :: starEach es X.env := by rfl) (hpl : (backTo pos (starEach es X.env)).any (·.1) = false := by rfl)
    (ht : eval (.Call (.Attribute (.Name x p2) m apos) (e :: es) [] pos) X.env = (do
      let ov ← eval (.Name x p2) X.env
      standAt apos.atName
      let (f, first) ← holding [ov] (getMethod ov m pl)
      callWith pos f first (backTo pos (starEach (e :: es) X.env)) (backToKw pos (keywordEach [] X.env))) := by rfl) :
    DE X C (.Call (.Attribute (.Name x p2) m apos) (e :: es) [] pos) (ClX.tCMeth C0 (spD K0 ms sd) E0 (tC (.ref C0)) t) (mCall ms sd (mCls C0 mt)) := by
  subst hK0
  exact ⟨pe_cmethG ho r c F hg hr hb passL ha.pa hst hpl ht, by rw [hK]; exact sim_cmeth ha.sim⟩
theorem de_make (M : Mk X.K C0 g) (F : FnG X.prog X.w X.K X.mg X.base k g fd ps (spD X.K (.M :: ms) sd)) (hg : X.A.guards = some []) (hr : Room (k + 1) X.A) (hgl : Gl X x) (hm : X.mg x = some (.ref C0)) (hb : Binds X.K fd ps []) (ha : DA X C (e :: es) t mt) {K0 : Fg} (hK0 : X.K = K0 := by rfl) (hK : K0 = C.K := by rfl)
    (hdb : (x == ("__debug__" : Str)) = false := by decide) (he : starEach (e :: es) X.env = (false, eval e X.env) :: starEach es X.env := by rfl) (hpl : (backTo pos (starEach es X.env)).any (·.1) = false := by rfl) :
    DE X C (.Call (.Name x p1) (e :: es) [] pos) (tMake C0 (spD K0 (.M :: ms) sd) [] E0 t) (mMake C0 ms sd mt) := by
  subst hK0
  exact ⟨pe_makeG M F hg hr hgl hm hb .nil passL ha.pa hdb he hpl, by rw [hK]; exact sim_make ha.sim⟩
theorem de_makeL {i : Nat} (M : Mk X.K C0 g) (F : FnG X.prog X.w X.K X.mg X.base k g fd ps (spD X.K (.M :: ms) sd)) (hg : X.A.guards = some []) (hr : Room (k + 1) X.A) (hb : Binds X.K fd ps []) (ha : DA X C (e :: es) t mt) (hN : X.N[i]? = some x := by rfl) (hv : Vis X.env.scope x := by first | exact Or.inl rfl | exact Or.inr (Or.inl rfl) | exact Or.inr (Or.inr rfl)) {K0 : Fg} (hK0 : X.K = K0 := by rfl) (hK : K0 = C.K := by rfl)
    (hdb : (x == ("__debug__" : Str)) = false := by decide) (hcd : (x == ("__classdict__" : Str)) = false := by decide) (he : starEach (e :: es) X.env = (false, eval e X.env) :: starEach es X.env := by rfl) (hpl : (backTo pos (starEach es X.env)).any (·.1) = false := by rfl) :
    DE X C (.Call (.Name x p1) (e :: es) [] pos) (tMakeL i C0 (spD K0 (.M :: ms) sd) [] E0 t) (mMakeL i C0 ms sd mt) := by
  subst hK0
  exact ⟨pe_makeL M F hg hr hN hv hb .nil passL ha.pa hdb hcd he hpl, by rw [hK]; exact sim_makeL ha.sim⟩
/-- a class of the module as a value -/
theorem pe_cls (hg : Gl X x) (hm : X.mg x = some (.ref C0)) (hdb : (x == ("__debug__" : Str)) = false := by decide) : PE X (.Name x p2) (tC (.ref C0)) := pe_glob hg hm rfl hdb
end
end DL
/-! the data layer, part 20: one step of a reading at a time: own classes -/
namespace DL
open PySem PySem.Spec PyProof.Rows L2
section
variable {Γ Γ' : Env} {Q : QE} {i : Nat} {d e : D} {ma mb mo me : DTE} {mr : DTA} {r r2 : Res} {rs : List Res} {ns : List Str} {ds : List D} {b : Bool} {C : Addr} {f m : Str}
def fdk (C : Addr) (f : Str) (r : Res) (Γ : Env) (Q : QE) : Prop := ∃ ns ds d, rd Γ r = some (.obj C ns ds) ∧ fldD ns ds f = some d ∧ Q (.val d) Γ
theorem e_Fld (h : mo Γ fun r Γ1 => fdk C f r Γ1 Q) : mFld C f mo Γ Q := h
theorem e_fld (h1 : rd Γ r = some (.obj C ns ds)) (h2 : fldD ns ds f = some d) (h : Q (.val d) Γ) : fdk C f r Γ Q := ⟨_, _, _, h1, h2, h⟩
theorem fld_1 : fldD (f :: ns) (d :: ds) f = some d := by rw [fldD, beq_self_eq_true, if_pos rfl]
theorem fld_2 {g : Str} (h : (f == g) = false) : fldD (g :: f :: ns) (e :: d :: ds) f = some d := by rw [fldD, h, if_neg Bool.false_ne_true, fld_1]
def sfk (C : Addr) (f : Str) (r ro : Res) (Γ : Env) (nx : Env → Prop) : Prop := ∃ d i ns ds, dat r = some d ∧ ro = .pl i ∧ cont Γ[i]? = some (.obj C ns ds) ∧ ns.length < 1000 ∧ ∃ Γ3, setC Γ i (.obj C (putN f ns) (putDs f d ns ds)) = some Γ3 ∧ nx Γ3
theorem s_SetF {nx bk ct : Env → Prop} {rt : Res → Env → Prop} (h : me Γ fun r Γ1 => mo Γ1 fun ro Γ2 => sfk C f r ro Γ2 nx) : mSetF C f mo me (.mk nx rt bk ct) Γ := h
theorem s_setF {nx : Env → Prop} {ns2 : List Str} {ds2 : List D} {Γ1 : Env} (h1 : dat r = some d) (h2 : cont Γ[i]? = some (.obj C ns ds)) (h3 : ns.length < 1000) (h4 : putN f ns = ns2) (h5 : putDs f d ns ds = ds2) (h6 : setC Γ i (.obj C ns2 ds2) = some Γ1) (h7 : Γ1 = Γ') (h : nx Γ') : sfk C f r (.pl i) Γ nx :=
  ⟨d, i, ns, ds, h1, rfl, h2, h3, Γ1, by rw [h4, h5]; exact h6, by rw [h7]; exact h⟩
def slfk (C : Addr) (m : Str) (r : Res) (ma : DTA) (Γ : Env) (Q : List Res → Env → Prop) : Prop := (∃ ns ds, rd Γ r = some (.obj C ns ds) ∧ m ∉ ns) ∧ ma Γ fun rs Γ2 => Q (r :: rs) Γ2
theorem e_Self {Q : List Res → Env → Prop} (h : mo Γ fun r Γ1 => slfk C m r mr Γ1 Q) : mSelf C m mo mr Γ Q := h
theorem e_self {Q : List Res → Env → Prop} (h1 : rd Γ r = some (.obj C ns ds)) (h2 : m ∉ ns) (h : mr Γ fun rs Γ2 => Q (r :: rs) Γ2) : slfk C m r mr Γ Q := ⟨⟨_, _, h1, h2⟩, h⟩
def slf1 (C : Addr) (r : Res) (Γ : Env) (Q : List Res → Env → Prop) : Prop := (∃ ns ds, rd Γ r = some (.obj C ns ds)) ∧ Q [r] Γ
theorem e_Self1 {Q : List Res → Env → Prop} (h : mo Γ fun r Γ1 => slf1 C r Γ1 Q) : mSelf1 C mo Γ Q := h
theorem e_self1 {Q : List Res → Env → Prop} (h1 : rd Γ r = some (.obj C ns ds)) (h : Q [r] Γ) : slf1 C r Γ Q := ⟨⟨_, _, h1⟩, h⟩
theorem e_Cls {Q : List Res → Env → Prop} (h : mr Γ fun rs Γ1 => Q (.val (.cls C) :: rs) Γ1) : mCls C mr Γ Q := h
def mkk (C : Addr) (ms : List Md) (sd : DSp) (Γ1 : Env) (rs : List Res) (Q : QE) : Prop := ∃ ds, argsD Γ1 ms rs = some ds ∧ apartB ms rs = true ∧ sd (.obj C [] [] :: ds) (fun b d ds' => d = .non ∧ ∃ d0 r0 Γ2, ds' = d0 :: r0 ∧ putsD (mPls ms rs) r0 Γ1 = some Γ2 ∧ Q (.fr d0) Γ2) noX
def mak (is : List Nat) (Γ1 : Env) (Q : QE) : Bool → D → List D → Prop := fun b d ds' => d = .non ∧ ∃ d0 r0 Γ2, ds' = d0 :: r0 ∧ putsD is r0 Γ1 = some Γ2 ∧ Q (.fr d0) Γ2
theorem e_Make {ms : List Md} {sd : DSp} (h : mr Γ fun rs Γ1 => mkk C ms sd Γ1 rs Q) : mMake C ms sd mr Γ Q := h
theorem e_MakeL {ms : List Md} {sd : DSp} (h1 : Γ[i]? = some (.sh (.cls C))) (h : mr Γ fun rs Γ1 => mkk C ms sd Γ1 rs Q) : mMakeL i C ms sd mr Γ Q := ⟨h1, h⟩
theorem e_make {ms : List Md} {sd : DSp} {is : List Nat} (h1 : argsD Γ ms rs = some ds) (h2 : apartB ms rs = true) (h3 : mPls ms rs = is) (h : sd (.obj C [] [] :: ds) (mak is Γ Q) noX) : mkk C ms sd Γ rs Q := ⟨_, h1, h2, by subst h3; exact h⟩
theorem e_mak {is : List Nat} {Γ1 : Env} (h1 : putsD is ds Γ = some Γ1) (h2 : Γ1 = Γ') (h : Q (.fr d) Γ') : mak is Γ Q b .non (d :: ds) := ⟨rfl, d, ds, Γ1, rfl, h1, by rw [h2]; exact h⟩
def iok (C : Addr) (r : Res) (Γ : Env) (Q : QE) : Prop := ∃ d b, rd Γ r = some d ∧ isO C d = some b ∧ Q (.val (.bl b)) Γ
theorem e_IsO (h : ma Γ fun r Γ1 => iok C r Γ1 Q) : mIsO C ma Γ Q := h
theorem e_isO (h1 : rd Γ r = some d) (h2 : isO C d = some b) (h : Q (.val (.bl b)) Γ) : iok C r Γ Q := ⟨_, _, h1, h2, h⟩
theorem isO_self : isO C (.obj C ns ds) = some true := by show (if C = C then some true else none) = some true; rw [if_pos rfl]
def eok (C : Addr) (sd : DSp) (F : Bool → Bool) (ra rb : Res) (Γ2 : Env) (Q : QE) : Prop := ∃ ns ds ns' ds', dat ra = some (.obj C ns ds) ∧ dat rb = some (.obj C ns' ds') ∧ sd [.obj C ns ds, .obj C ns' ds'] (eqk F Γ2 Q) noX
theorem e_EqO {sd : DSp} {F : Bool → Bool} (h : ma Γ fun ra Γ1 => mb Γ1 fun rb Γ2 => eok C sd F ra rb Γ2 Q) : mEqO C sd F ma mb Γ Q := h
theorem e_eqO {sd : DSp} {F : Bool → Bool} {ns' : List Str} {ds' : List D} (h1 : dat r = some (.obj C ns ds)) (h2 : dat r2 = some (.obj C ns' ds')) (h : sd [.obj C ns ds, .obj C ns' ds'] (eqk F Γ Q) noX) : eok C sd F r r2 Γ Q := ⟨_, _, _, _, h1, h2, h⟩
theorem e_eqk {F : Bool → Bool} {z : Bool} (h : Q (.val (.bl (F z))) Γ) : eqk F Γ Q false (.bl z) [] := eqk_in h
end
theorem i_powN {i j : Int} {n : Nat} {Q : Res → Prop} (hj : j.toNat = n) (h1 : PowOk i j) (h : Q (.val (.int (i ^ n)))) : powD (.int i) (.int j) Q := ⟨h1, by rw [hj]; exact h⟩
theorem i_eqT {i j : List Int} {Q : Res → Prop} (h : Q (.val (.bl (decide (i = j))))) : eqD (.tup (i.map D.int)) (.tup (j.map D.int)) Q := ⟨okE_tints _, okE_tints _, by rw [eqv_tints]; exact h⟩
theorem i_neT {i j : List Int} {Q : Res → Prop} (h : Q (.val (.bl (!decide (i = j))))) : neD (.tup (i.map D.int)) (.tup (j.map D.int)) Q := ⟨okE_tints _, okE_tints _, by rw [eqv_tints]; exact h⟩
theorem i_neB {i j : Bool} {Q : Res → Prop} (h : Q (.val (.bl (!decide (i = j))))) : neD (.bl i) (.bl j) Q := ⟨okE_bl _, okE_bl _, by rw [eqv_bl]; exact h⟩
/-- a ring of these ranks -/
abbrev ringD (C : Addr) (l : List Int) : D := .obj C ["rank_list"] [.lst (l.map D.int)]
theorem rgD_nat (n : Nat) : rgD 0 (n : Int) = ((List.range n).map fun i => ((i : Nat) : Int)).map D.int := by
  unfold rgD
  rw [List.map_map]
  simp
end DL
namespace DL
open PySem PySem.Spec PyProof.Rows L2
/-! data that are equal to themselves and print well -/
mutual
def niceD (k : Nat) : D → Bool
  | .int i => decide (i.natAbs < 2 ^ k)
  | .bl _ => true
  | .non => true
  | .lst ds => nicesD k ds
  | .tup ds => nicesD k ds
  | .str x => PyData.strOk x
  | _ => false
def nicesD (k : Nat) : List D → Bool
  | [] => true
  | d :: ds => niceD k d && nicesD k ds
end
mutual
def wtD (k : Nat) : D → Nat
  | .int _ => k + 1
  | .lst ds => 4 + wtsD k ds
  | .tup ds => 4 + wtsD k ds
  | .str x => 10 * x.length + 5
  | _ => 5
def wtsD (k : Nat) : List D → Nat
  | [] => 0
  | d :: ds => wtD k d + 2 + wtsD k ds
end
theorem log2_nice {i : Int} {k : Nat} (hk : 0 < k) (h : i.natAbs < 2 ^ k) : i.natAbs.log2 < k := by
  by_cases h0 : i.natAbs = 0
  · rw [h0, show Nat.log2 0 = 0 from by decide]; exact hk
  · exact (Nat.log2_lt h0).mpr h
theorem join_len (sep : Str) : ∀ ts : List Str, (Str.join sep ts).length ≤ (ts.map (·.length)).sum + sep.length * ts.length
  | [] => Nat.zero_le _
  | [x] => by
    show x.length ≤ x.length + 0 + sep.length * 1
    omega
  | x :: y :: r => by
    have h := join_len sep (y :: r)
    show (x ++ sep ++ Str.join sep (y :: r)).length ≤ _
    rw [strLen_append, strLen_append]
    simp only [List.map_cons, List.sum_cons, List.length_cons] at h ⊢
    rw [Nat.mul_add sep.length (r.length + 1) 1]
    omega
theorem strOk_join (sep : String) : ∀ ts : List Str, (∀ t ∈ ts, PyData.strOk t = true) → PyData.strOk (Str.join sep ts) = true
  | [], _ => by unfold Str.join; decide +kernel
  | [x], h => h x (List.mem_cons_self ..)
  | x :: y :: r, h => by
    show PyData.strOk (x ++ sep ++ Str.join sep (y :: r)) = true
    exact strOk_app (strOk_app (h x (List.mem_cons_self ..)) (strOk_of _)) (strOk_join sep (y :: r) fun t ht => h t (List.mem_cons_of_mem _ ht))
theorem strOk_mem {x : Str} : PyData.strOk x = true ↔ ∀ c ∈ x.cps.toList, c < 1114112 := by
  unfold PyData.strOk
  rw [Array.all_eq_true']
  constructor
  · intro h c hc
    exact of_decide_eq_true (h c (Array.mem_toList_iff.mp hc))
  · intro h c hc
    exact decide_eq_true (h c (Array.mem_toList_iff.mpr hc))
theorem char_lt (c : Char) : c.toNat < 1114112 := by
  have h : c.val.toNat.isValidChar := c.valid
  show c.val.toNat < 1114112
  unfold Nat.isValidChar at h
  omega
theorem reprChar_lt (q c : Nat) (hc : c < 1114112) : ∀ d ∈ Builtin.Str.reprChar q c, d < 1114112 := by
  have hx : ∀ w : Nat, ∀ d ∈ List.replicate (w - ((Nat.toDigits 16 c).map Char.toNat).length) 48 ++ (Nat.toDigits 16 c).map Char.toNat, d < 1114112 := fun w d hd => by
    rcases List.mem_append.mp hd with h | h
    · rw [(List.mem_replicate.mp h).2]; decide
    · obtain ⟨ch, _, rfl⟩ := List.mem_map.mp h
      exact char_lt ch
  unfold Builtin.Str.reprChar
  intro d hd
  simp only at hd
  repeat' split at hd
  all_goals simp only [List.mem_append, List.mem_cons, List.not_mem_nil, or_false] at hd
  all_goals first | omega | (rcases hd with hd | hd <;> first | omega | exact hx 2 d (List.mem_append.mpr hd) | exact hx 4 d (List.mem_append.mpr hd) | exact hx 8 d (List.mem_append.mpr hd))
theorem foldl_lt (q : Nat) : ∀ (l : List Nat) (acc : Array Nat), (∀ c ∈ l, c < 1114112) → (∀ c ∈ acc.toList, c < 1114112) → ∀ c ∈ (l.foldl (fun out c => out ++ (Builtin.Str.reprChar q c).toArray) acc).toList, c < 1114112
  | [], acc, _, h => h
  | x :: l, acc, hl, h => by
    rw [List.foldl_cons]
    refine foldl_lt q l _ (fun c hc => hl c (List.mem_cons_of_mem _ hc)) fun c hc => ?_
    rw [Array.toList_append, List.mem_append] at hc
    rcases hc with hc | hc
    · exact h c hc
    · exact reprChar_lt q x (hl x (List.mem_cons_self ..)) c hc
theorem strOk_repr {x : Str} (h : PyData.strOk x = true) : PyData.strOk (reprText x) = true := by
  rw [strOk_mem] at h ⊢
  unfold reprText
  show ∀ c ∈ ((x.cps.foldl (fun out c => out ++ (Builtin.Str.reprChar (reprQuote x) c).toArray) #[reprQuote x]).push (reprQuote x)).toList, c < 1114112
  have hq : reprQuote x < 1114112 := by unfold reprQuote; split <;> decide
  intro c hc
  rw [Array.toList_push, List.mem_append, ← Array.foldl_toList] at hc
  rcases hc with hc | hc
  · exact foldl_lt _ _ _ h (fun c hc => by rw [List.mem_singleton.mp hc]; exact hq) c hc
  · rw [List.mem_singleton.mp hc]; exact hq
section
variable {k : Nat} (hk0 : 0 < k) (hk : k ≤ 1920)
include hk0 hk
mutual
theorem nice_ok : ∀ d : D, niceD k d = true → plain d = true ∧ (toPy d).canLay0 = true ∧ (toPy d).showable = true ∧ (toPy d).hasDict = false ∧ (toPy d).eqv (toPy d) = true ∧ PyData.strOk (toPy d).shown = true ∧ (toPy d).shown.length ≤ wtD k d
  | .non, _ => by refine ⟨rfl, rfl, rfl, rfl, rfl, strOk_of _, ?_⟩; simp only [toPy, PyData.shown, wtD]; decide
  | .bl b, _ => by
    refine ⟨rfl, rfl, rfl, rfl, ?_, ?_, ?_⟩
    · simp [toPy, PyData.eqv]
    · cases b <;> exact strOk_of _
    · simp only [toPy, PyData.shown, wtD]; cases b <;> decide
  | .int i, h => by
    rw [niceD, decide_eq_true_eq] at h
    have hl := log2_nice hk0 h
    refine ⟨rfl, rfl, ?_, rfl, ?_, ?_, ?_⟩
    · rw [toPy, PyData.showable]; exact decide_eq_true (by omega)
    · simp [toPy, PyData.eqv]
    · rw [toPy, PyData.shown]; exact strOk_of _
    · rw [toPy, PyData.shown, wtD]
      have := int_text_length_le hk0 hl
      rw [Str_len]; omega
  | .lst ds, h => by
    rw [niceD] at h
    obtain ⟨h1, h2, h3, h4, h5, h6, h7⟩ := nices_ok ds h
    refine ⟨by rw [DL.plain]; exact h1, by rw [toPy, PyData.canLay0]; exact h2, by rw [toPy, PyData.showable]; exact h3, by rw [toPy, PyData.hasDict]; exact h4, by rw [toPy, PyData.eqv]; exact h5, ?_, ?_⟩
    · rw [toPy, PyData.shown]
      exact strOk_app (strOk_textFrom _ _ _ h6 (strOk_of _)) (strOk_of _)
    · rw [toPy, PyData.shown, wtD]
      have := listText_len_le (PyData.shownAll (toPys ds))
      omega
  | .tup ds, h => by
    rw [niceD] at h
    obtain ⟨h1, h2, h3, h4, h5, h6, h7⟩ := nices_ok ds h
    refine ⟨by rw [DL.plain]; exact h1, by rw [toPy, PyData.canLay0]; exact h2, by rw [toPy, PyData.showable]; exact h3, by rw [toPy, PyData.hasDict]; exact h4, by rw [toPy, PyData.eqv]; exact h5, ?_, ?_⟩
    · rw [toPy, PyData.shown]
      unfold tupleText
      refine strOk_app (strOk_app (strOk_of _) (strOk_join _ _ h6)) ?_
      split <;> exact strOk_of _
    · rw [toPy, PyData.shown, wtD]
      unfold tupleText
      rw [strLen_append, strLen_append]
      have h8 := join_len ", " (PyData.shownAll (toPys ds))
      have h9 : (", " : Str).length = 2 := by decide
      rw [h9] at h8
      have h10 : ("(" : Str).length = 1 := by decide
      have h11 : ((if (PyData.shownAll (toPys ds)).length == 1 then ",)" else ")" : String) : Str).length ≤ 2 := by split <;> decide
      omega
  | .str x, h => by
    rw [niceD] at h
    refine ⟨rfl, by rw [toPy, PyData.canLay0]; exact h, rfl, rfl, ?_, ?_, ?_⟩
    · rw [toPy, PyData.eqv]; exact beq_self_eq_true x
    · rw [toPy, PyData.shown]; exact strOk_repr h
    · rw [toPy, PyData.shown, wtD]
      have := StrLaws.reprText_len x fun c hc => Nat.lt_trans (strOk_mem.mp h c hc) (by decide)
      omega
  | .scr _, h => by simp [niceD] at h
  | .dic _, h => by simp [niceD] at h
  | .dit _, h => by simp [niceD] at h
  | .dkl _, h => by simp [niceD] at h
  | .dtl _, h => by simp [niceD] at h
  | .pnK _ _, h => by simp [niceD] at h
  | .pnT _ _, h => by simp [niceD] at h
  | .obj _ _ _, h => by simp [niceD] at h
  | .cls _, h => by simp [niceD] at h
  | .xcl _ _, h => by simp [niceD] at h
theorem nices_ok : ∀ ds : List D, nicesD k ds = true → plains ds = true ∧ PyData.canLayAll0 (toPys ds) = true ∧ PyData.showableAll (toPys ds) = true ∧ PyData.hasDictAll (toPys ds) = false ∧ PyData.eqvAll (toPys ds) (toPys ds) = true ∧ (∀ t ∈ PyData.shownAll (toPys ds), PyData.strOk t = true) ∧ ((PyData.shownAll (toPys ds)).map (·.length)).sum + 2 * (PyData.shownAll (toPys ds)).length ≤ wtsD k ds
  | [], _ => by refine ⟨rfl, rfl, rfl, rfl, rfl, fun t ht => ?_, ?_⟩ <;> simp_all [toPys, PyData.shownAll, wtsD]
  | d :: ds, h => by
    rw [nicesD, Bool.and_eq_true] at h
    obtain ⟨a1, a2, a3, a4, a5, a6, a7⟩ := nice_ok d h.1
    obtain ⟨h1, h2, h3, h4, h5, h6, h7⟩ := nices_ok ds h.2
    refine ⟨by rw [plains, a1, h1]; rfl, by rw [toPys, PyData.canLayAll0, a2, h2]; rfl, by rw [toPys, PyData.showableAll, a3, h3]; rfl, by rw [toPys, PyData.hasDictAll, a4, h4]; rfl, by rw [toPys, PyData.eqvAll, a5, h5]; rfl, fun t ht => ?_, ?_⟩
    · rw [toPys, PyData.shownAll] at ht
      rcases List.mem_cons.mp ht with e | e
      · rw [e]; exact a6
      · exact h6 t e
    · rw [toPys, PyData.shownAll, wtsD]
      simp only [List.map_cons, List.sum_cons, List.length_cons]
      omega
end
end
/-- nice, not too deep, not too long -/
structure NiceD (d : D) : Prop where
  nice : niceD 256 d = true
  deep : (toPy d).depth ≤ 20
  wt : wtD 256 d ≤ 900000
theorem NiceD.eqv {d : D} (h : NiceD d) : DL.eqv d d = true := (nice_ok (k := 256) (by decide) (by decide) d h.nice).2.2.2.2.1
theorem NiceD.okR {d : D} (h : NiceD d) : DL.okR d = true := by
  have n := nice_ok (k := 256) (by decide) (by decide) d h.nice
  have := h.deep
  have := h.wt
  simp only [DL.okR, n.1, n.2.2.1, n.2.2.2.1, Bool.true_and, Bool.and_eq_true, decide_eq_true_eq]
  have := n.2.2.2.2.2.2
  refine ⟨⟨by omega, by omega⟩, rfl⟩
theorem nices_ints {k : Nat} {l : List Int} (h : ∀ x ∈ l, x.natAbs < 2 ^ k) : nicesD k (l.map D.int) = true := by
  induction l with
  | nil => rfl
  | cons x l ih =>
    rw [List.map_cons, nicesD, niceD, decide_eq_true (h x (List.mem_cons_self ..)), ih fun y hy => h y (List.mem_cons_of_mem _ hy)]; rfl
theorem wts_ints {k : Nat} (l : List Int) : wtsD k (l.map D.int) = l.length * (k + 3) := by
  induction l with
  | nil => simp [wtsD]
  | cons x l ih => rw [List.map_cons, wtsD, wtD, ih, List.length_cons, Nat.add_mul]; omega
theorem NiceD.ints {l : List Int} (h : ∀ x ∈ l, x.natAbs < 2 ^ 256) (hl : l.length ≤ 3000) : NiceD (.lst (l.map D.int)) := by
  refine ⟨by rw [niceD]; exact nices_ints h, ?_, ?_⟩
  · rw [toPy, toPys_ints, PyData.depth, depth_ints]; decide
  · rw [wtD, wts_ints]; omega
theorem NiceD.int {i : Int} (h : i.natAbs < 2 ^ 256) : NiceD (.int i) := ⟨decide_eq_true h, by simp [toPy, PyData.depth], by simp [wtD]⟩
theorem NiceD.bl {i : Bool} : NiceD (.bl i) := ⟨rfl, by simp [toPy, PyData.depth], by simp [wtD]⟩
theorem NiceD.non : NiceD .non := ⟨rfl, by decide, by decide⟩
end DL
/-! the data layer, part 22: lists -/
namespace DL
open PySem PySem.Spec PyProof.Rows L2
theorem sIx_some {n : Nat} {d : Nat} {k : Int} (h0 : 0 ≤ k) (h : k ≤ n) : HT.sIx n d (some k) = k.toNat := by
  show (if k < 0 then (k + n).toNat else min k.toNat n) = k.toNat
  rw [if_neg (by omega)]; omega
theorem cutD_from {l : List D} {k : Int} (h0 : 0 ≤ k) (h : k ≤ l.length) : DL.cutD l (some k) none = l.drop k.toNat := by
  unfold DL.cutD
  rw [sIx_some h0 h, show HT.sIx l.length l.length none = l.length from rfl, List.take_of_length_le (by rw [List.length_drop]; omega)]
theorem cutD_to {l : List D} {k : Int} (h0 : 0 ≤ k) (h : k ≤ l.length) : DL.cutD l none (some k) = l.take k.toNat := by
  unfold DL.cutD
  rw [sIx_some h0 h, show HT.sIx l.length 0 none = 0 from rfl, List.drop_zero, Nat.sub_zero]
theorem ig_mem {l : List Int} {i : Int} (h : -(l.length : Int) ≤ i ∧ i < l.length) : ig l i ∈ l := by
  unfold ig
  by_cases h0 : 0 ≤ i
  · rw [if_pos h0, List.getD_eq_getElem?_getD, List.getElem?_eq_getElem (by omega)]
    exact List.getElem_mem _
  · rw [if_neg h0, List.getD_eq_getElem?_getD, List.getElem?_eq_getElem (by omega)]
    exact List.getElem_mem _
theorem ig_get {l : List Int} {i : Nat} (h : i < l.length) : ig l (i : Int) = l[i] := by
  unfold ig
  rw [if_pos (by omega), List.getD_eq_getElem?_getD, List.getElem?_eq_getElem (by omega)]
  rfl
/-- a comprehension over ints that gives one int for each -/
def mapG (f : Int → Int) : D → Option D
  | .int r => some (.int (f r))
  | _ => none
theorem mapG_all (f : Int → Int) : ∀ l : List Int, (l.map D.int).filterMap (mapG f) = (l.map f).map D.int
  | [] => rfl
  | r :: l => by rw [List.map_cons, List.map_cons, List.map_cons, List.filterMap_cons_some (show mapG f (.int r) = some (.int (f r)) from rfl), mapG_all f l]
/-- a comprehension over ints that keeps some -/
def filG (p : Int → Bool) : D → Option D
  | .int r => if p r = true then some (.int r) else none
  | _ => none
theorem filG_T {p : Int → Bool} {r : Int} (h : p r = true) : filG p (.int r) = some (.int r) := if_pos h
theorem filG_F {p : Int → Bool} {r : Int} (h : p r = false) : filG p (.int r) = none := if_neg (by rw [h]; exact Bool.false_ne_true)
theorem filG_all (p : Int → Bool) : ∀ l : List Int, (l.map D.int).filterMap (filG p) = (l.filter p).map D.int
  | [] => rfl
  | r :: l => by
    rw [List.map_cons, List.filter_cons]
    cases h : p r with
    | true => rw [List.filterMap_cons_some (filG_T h), filG_all p l, if_pos rfl]; rfl
    | false => rw [List.filterMap_cons_none (filG_F h), filG_all p l, if_neg Bool.false_ne_true]
theorem rngD_ints (lo : Int) (n : Nat) : rngD lo n = ((List.range n).map fun i => lo + ((i : Nat) : Int)).map D.int := by
  unfold rngD
  rw [List.map_map]; rfl
theorem i_minL {l : List Int} {Q : Res → Prop} (h0 : 0 < l.length) (h : ∀ m, m ∈ l → (∀ y, y ∈ l → m ≤ y) → Q (.val (.int m))) : minD [.lst (l.map D.int)] Q := ⟨l, ints?_map l, h0, h⟩
theorem i_maxL {l : List Int} {Q : Res → Prop} (h0 : 0 < l.length) (h : ∀ m, m ∈ l → (∀ y, y ∈ l → y ≤ m) → Q (.val (.int m))) : maxD [.lst (l.map D.int)] Q := ⟨l, ints?_map l, h0, h⟩
theorem i_minT {l : List Int} {Q : Res → Prop} (h0 : 0 < l.length) (h : ∀ m, m ∈ l → (∀ y, y ∈ l → m ≤ y) → Q (.val (.int m))) : minD [.tup (l.map D.int)] Q := ⟨_, ints?_map l, h0, h⟩
theorem i_maxT {l : List Int} {Q : Res → Prop} (h0 : 0 < l.length) (h : ∀ m, m ∈ l → (∀ y, y ∈ l → y ≤ m) → Q (.val (.int m))) : maxD [.tup (l.map D.int)] Q := ⟨_, ints?_map l, h0, h⟩
theorem sorted_ints {ns ms ks : List Int} (p : ms.Perm ns) (s : ms.Pairwise (· ≤ ·)) (p2 : ks.Perm ns) (s2 : ks.Pairwise (· ≤ ·)) : ms = ks := by
  refine List.Perm.eq_of_pairwise (le := (· ≤ ·)) (fun a b _ _ h1 h2 => Int.le_antisymm h1 h2) s s2 (p.trans p2.symm)
theorem i_bag {ns : List Int} {Q : Bool → D → List D → Prop} {E : EdT} (h : ∀ b, BagD b → Q true b []) : bagD [.scr (ns.map D.int)] Q E := ⟨ns, rfl, h⟩
theorem s_par3 {rs : List Res} {n : Nat} {P : Prop} (h1 : rs.length = n) (h : P) : rs.length = n ∧ P := ⟨h1, h⟩
theorem i_stN {l : List Int} {k : Nat} {x : Int} {Q : D → Prop} (h1 : k < l.length) (h : Q (.lst ((l.set k x).map D.int))) : stD (.lst (l.map D.int)) (.int (k : Int)) (.int x) Q := by
  refine ⟨k, by rw [List.length_map]; exact ixN_nat h1, ?_⟩
  rw [← List.map_set]; exact h
theorem i_stP {l : List Int} {k : Int} {x : Int} {Q : D → Prop} (h0 : 0 ≤ k) (h1 : k < l.length) (h : Q (.lst ((l.set k.toNat x).map D.int))) : stD (.lst (l.map D.int)) (.int k) (.int x) Q := by
  refine ⟨k.toNat, by rw [List.length_map]; exact ixN_pos h0 h1, ?_⟩
  rw [← List.map_set]; exact h
theorem rep_one (x : D) : ∀ n : Nat, (List.replicate n [x]).flatten = List.replicate n x
  | 0 => rfl
  | n + 1 => by rw [List.replicate_succ, List.replicate_succ, List.flatten_cons, rep_one x n]; rfl
theorem i_mulR {n : Nat} {x : Int} {Q : Res → Prop} (h1 : n ≤ 100000) (h : Q (.fr (.lst ((List.replicate n x).map D.int)))) : mulD (.lst [.int x]) (.int (n : Int)) Q := by
  refine ⟨⟨by omega, by omega, ?_⟩, ?_⟩
  · show 1 * ((n : Int)).toNat ≤ _
    omega
  · rw [Int.toNat_natCast, rep_one, ← List.map_replicate]; exact h
theorem i_appendI {l : List Int} {x : Int} {Q : D → Res → Prop} (h1 : l.length < 100000) (h : Q (.lst ((l ++ [x]).map D.int)) (.val .non)) : appendD (.lst (l.map D.int)) [.int x] Q := by
  refine ⟨by rw [List.length_map]; exact h1, ?_⟩
  rw [List.map_append] at h; exact h
theorem i_popI {l : List Int} {k : Int} {Q : D → Res → Prop} (h0 : 0 ≤ k) (h1 : k < l.length) (h2 : l.length < 2 ^ 63) (h : Q (.lst ((l.eraseIdx k.toNat).map D.int)) (.val (.int (ig l k)))) : popD (.lst (l.map D.int)) [.int k] Q := by
  refine ⟨⟨by omega, by omega⟩, k.toNat, .int (ig l k), ?_, ?_, ?_⟩
  · unfold seqIndex?
    rw [List.length_map]
    simp only [show ¬ k < 0 by omega, if_false]
    rw [if_pos (by rw [Bool.and_eq_true, decide_eq_true_eq, decide_eq_true_eq]; exact ⟨h0, h1⟩)]
  · rw [List.getElem?_map, List.getElem?_eq_getElem (by omega)]
    have e : k = ((k.toNat : Nat) : Int) := by omega
    have := ig_get (l := l) (i := k.toNat) (by omega)
    rw [← e] at this
    rw [this]; rfl
  · have e : ∀ (l : List Int) (k : Nat), (l.map D.int).eraseIdx k = (l.eraseIdx k).map D.int := fun l => by
      induction l with
      | nil => intro k; rfl
      | cons x l ih =>
        intro k
        cases k with
        | zero => rfl
        | succ k => simp only [List.map_cons, List.eraseIdx_cons_succ, ih]
    rw [e]; exact h
/-- how great drawn ranks are -/
abbrev rkOk (x : Int) : Prop := -(10 ^ 12) ≤ x ∧ x ≤ 10 ^ 39
/-- what every law's own def promises -/
abbrev slawD : DSp := fun ds Q _ => ∃ ns : List Int, ds = [.scr (ns.map D.int)] ∧ Q false (.bl true) []
theorem law_fin (ns : List Int) : slawD [.scr (ns.map D.int)] (fun _ d _ => d = .bl true) noX := ⟨ns, rfl, rfl⟩
end DL
/-! the data layer, part 23: rings, outcomes, calls: plain mathematics -/
namespace DL
open PySem PySem.Spec PyProof.Rows L2
/-! ### lists by places -/
theorem ig_nat (l : List Int) (i : Nat) : ig l (i : Int) = l.getD i 0 := by
  unfold ig
  rw [if_pos (by omega)]; rfl
theorem ig_set {l : List Int} {i j : Nat} {x : Int} (hi : i < l.length) : ig (l.set i x) (j : Int) = if i = j then x else ig l (j : Int) := by
  rw [ig_nat, ig_nat, List.getD_eq_getElem?_getD, List.getD_eq_getElem?_getD]
  by_cases h : i = j
  · subst h
    rw [if_pos rfl, List.getElem?_set_self hi]; rfl
  · rw [if_neg h, List.getElem?_set_ne h]
theorem ig_map {f : Int → Int} {l : List Int} {i : Nat} (h : i < l.length) : ig (l.map f) (i : Int) = f (ig l (i : Int)) := by
  rw [ig_get h, ig_get (by rw [List.length_map]; exact h), List.getElem_map]
theorem ig_range {n i : Nat} (f : Nat → Int) (h : i < n) : ig ((List.range n).map f) (i : Int) = f i := by
  rw [ig_get (by simpa using h), List.getElem_map, List.getElem_range]
theorem ig_ext {l m : List Int} (h1 : l.length = m.length) (h : ∀ i : Nat, i < l.length → ig l (i : Int) = ig m (i : Int)) : l = m := by
  apply List.ext_getElem h1
  intro i a b
  have := h i a
  rw [ig_get a, ig_get b] at this
  exact this
theorem ig_neg1 {l : List Int} (h : 0 < l.length) : ig l (-1) = ig l ((l.length - 1 : Nat) : Int) := by
  unfold ig
  rw [if_neg (by decide), if_pos (by omega)]
  congr 1
  omega
theorem sum_set : ∀ {l : List Int} {i : Nat} {x : Int}, i < l.length → (l.set i x).sum = l.sum - ig l (i : Int) + x
  | [], _, _, h => absurd h (by simp)
  | y :: l, 0, x, _ => by
    rw [List.set_cons_zero, List.sum_cons, List.sum_cons, ig_nat]
    show x + l.sum = y + l.sum - y + x
    omega
  | y :: l, i + 1, x, h => by
    have ih := sum_set (l := l) (i := i) (x := x) (by simpa using h)
    rw [List.set_cons_succ, List.sum_cons, List.sum_cons, ih, ig_nat, ig_nat]
    show _ = y + l.sum - l.getD i 0 + x
    omega
theorem perm_sum {l m : List Int} (h : l.Perm m) : l.sum = m.sum := by
  induction h with
  | nil => rfl
  | cons x _ ih => rw [List.sum_cons, List.sum_cons, ih]
  | swap x y l => simp only [List.sum_cons]; omega
  | trans _ _ h1 h2 => exact h1.trans h2
/-! ### outcomes -/
/-- the places 0, 1, .. as ints -/
def iota (n : Nat) : List Int := (List.range n).map fun i => ((i : Nat) : Int)
theorem iota_len (n : Nat) : (iota n).length = n := by simp [iota]
theorem ig_iota {n i : Nat} (h : i < n) : ig (iota n) (i : Int) = i := ig_range _ h
theorem mem_iota {n : Nat} {x : Int} : x ∈ iota n ↔ 0 ≤ x ∧ x < n := by
  unfold iota
  rw [List.mem_map]
  constructor
  · rintro ⟨i, hi, rfl⟩
    have := List.mem_range.mp hi
    omega
  · intro ⟨h0, h1⟩
    exact ⟨x.toNat, List.mem_range.mpr (by omega), by omega⟩
theorem iota_nodup (n : Nat) : (iota n).Nodup := by
  unfold iota
  rw [List.nodup_iff_pairwise_ne, List.pairwise_map]
  exact (List.nodup_iff_pairwise_ne.mp (List.nodup_range (n := n))).imp fun h => by omega
/-- one number for each rest, their sum that of the places -/
structure Out (n : Nat) (o : List Int) : Prop where
  len : o.length = n
  inj : ∀ i j : Nat, i < n → j < n → ig o (i : Int) % (n : Int) = ig o (j : Int) % (n : Int) → i = j
  sur : ∀ i : Nat, i < n → ∃ p : Nat, p < n ∧ ig o (p : Int) % (n : Int) = i
  sum : o.sum = (iota n).sum
theorem out_iota (n : Nat) : Out n (iota n) := by
  refine ⟨iota_len n, fun i j hi hj e => ?_, fun i hi => ⟨i, hi, ?_⟩, rfl⟩
  · rw [ig_iota hi, ig_iota hj, Int.emod_eq_of_lt (by omega) (by omega), Int.emod_eq_of_lt (by omega) (by omega)] at e
    omega
  · rw [ig_iota hi, Int.emod_eq_of_lt (by omega) (by omega)]
theorem Out.res {n : Nat} {o : List Int} (_ : Out n o) {i : Nat} (hi : i < n) : 0 ≤ ig o (i : Int) % (n : Int) ∧ ig o (i : Int) % (n : Int) < n := ⟨Int.emod_nonneg _ (by omega), Int.emod_lt_of_pos _ (by omega)⟩
/-- where the copy that begins at an unrolled place ends -/
def endAt (o : List Int) (x : Int) : Int := ig o (x % o.length) + x / o.length * o.length
theorem endAt_lap (o : List Int) (x k : Int) (h : 0 < o.length) : endAt o (x + k * o.length) = endAt o x + k * o.length := by
  unfold endAt
  rw [Int.add_mul_emod_self_right, Int.add_mul_ediv_right _ _ (by omega), Int.add_mul]
  omega
theorem endAt_nat {o : List Int} {i : Nat} (h : i < o.length) : endAt o (i : Int) = ig o (i : Int) := by
  unfold endAt
  rw [Int.emod_eq_of_lt (by omega) (by omega), Int.ediv_eq_zero_of_lt (by omega) (by omega)]
  omega
/-- an unrolled place: its place and its laps -/
theorem unroll (n : Nat) (h : 0 < n) (x : Int) : ∃ i : Nat, i < n ∧ x % (n : Int) = i ∧ x = i + x / (n : Int) * n := by
  have r0 := Int.emod_nonneg x (show (n : Int) ≠ 0 by omega)
  have r1 := Int.emod_lt_of_pos x (show (0 : Int) < n by omega)
  refine ⟨(x % n).toNat, by omega, by omega, ?_⟩
  have := Int.emod_add_mul_ediv x n
  rw [Int.mul_comm (x / n) n]
  omega
theorem sum_map_sub {α : Type} (l : List α) (f g : α → Int) : (l.map fun x => f x - g x).sum = (l.map f).sum - (l.map g).sum := by
  induction l with
  | nil => rfl
  | cons x l ih => simp only [List.map_cons, List.sum_cons, ih]; omega
theorem sum_map_add {α : Type} (l : List α) (f g : α → Int) : (l.map fun x => f x + g x).sum = (l.map f).sum + (l.map g).sum := by
  induction l with
  | nil => rfl
  | cons x l ih => simp only [List.map_cons, List.sum_cons, ih]; omega
theorem Out.perm {n : Nat} {o : List Int} (O : Out n o) : (o.map fun x => x % (n : Int)).Perm (iota n) := by
  have nd : (o.map fun x => x % (n : Int)).Nodup := by
    rw [List.nodup_iff_pairwise_ne, List.pairwise_map, List.pairwise_iff_getElem]
    intro i j hi hj hij e
    have hn := O.len
    have := O.inj i j (by omega) (by omega) (by rw [ig_get hi, ig_get hj]; exact e)
    omega
  refine (List.perm_ext_iff_of_nodup nd (iota_nodup n)).mpr fun a => ?_
  rw [mem_iota]
  constructor
  · intro h
    obtain ⟨x, hx, rfl⟩ := List.mem_map.mp h
    have : 0 < n := by
      rw [← O.len]; exact List.length_pos_of_mem hx
    exact ⟨Int.emod_nonneg _ (by omega), Int.emod_lt_of_pos _ (by omega)⟩
  · intro ⟨h0, h1⟩
    obtain ⟨p, hp, e⟩ := O.sur a.toNat (by omega)
    have hl := O.len
    refine List.mem_map.mpr ⟨ig o p, ?_, by omega⟩
    rw [ig_get (by omega)]
    exact List.getElem_mem _
/-- the way back -/
def invO (t : List Int) : List Int := (List.range t.length).map fun (i : Nat) => match (List.range t.length).find? (fun p => decide (ig t ((p : Nat) : Int) % (t.length : Int) = i)) with
  | some p => (p : Int) - ig t (p : Int) / t.length * t.length
  | none => 0
theorem invO_len (t : List Int) : (invO t).length = t.length := by simp [invO]
theorem Out.inv_at {n : Nat} {t : List Int} (O : Out n t) {p : Nat} (hp : p < n) : ig (invO t) (ig t (p : Int) % (n : Int)) = p - ig t (p : Int) / n * n := by
  have hl := O.len
  obtain ⟨r0, r1⟩ := O.res hp
  obtain ⟨i, hi⟩ := Int.eq_ofNat_of_zero_le r0
  rw [hi] at r1 ⊢
  unfold invO
  rw [ig_range _ (by omega), hl]
  have hf : (List.range n).find? (fun q => decide (ig t ((q : Nat) : Int) % (n : Int) = i)) = some p := by
    cases e : (List.range n).find? (fun q => decide (ig t ((q : Nat) : Int) % (n : Int) = i)) with
    | none =>
      have := List.find?_eq_none.mp e p (List.mem_range.mpr hp)
      simp [hi] at this
    | some q =>
      have h1 := List.find?_some e
      have h2 := List.mem_range.mp (List.mem_of_find?_eq_some e)
      have h1 : ig t ((q : Nat) : Int) % (n : Int) = i := by simpa using h1
      rw [O.inj q p h2 hp (by rw [h1, hi])]
  rw [hf]
theorem Out.inv_uniq {n : Nat} {t l : List Int} (O : Out n t) (hl : l.length = n) (h : ∀ p : Nat, p < n → ig l (ig t (p : Int) % (n : Int)) = p - ig t (p : Int) / n * n) : l = invO t := by
  refine ig_ext (by rw [hl, invO_len, O.len]) fun i hi => ?_
  obtain ⟨p, hp, e⟩ := O.sur i (by omega)
  rw [← e, h p hp, O.inv_at hp]
/-- back and forth -/
theorem Out.end_inv {n : Nat} {t : List Int} (O : Out n t) (h0 : 0 < n) (x : Int) : endAt (invO t) (endAt t x) = x := by
  have hl := O.len
  obtain ⟨i, hi, ei, exx⟩ := unroll n h0 x
  have e : endAt t x = ig t (i : Int) + x / n * n := by unfold endAt; rw [hl, ei]
  rw [e]
  have e2 := endAt_lap (invO t) (ig t (i : Int)) (x / n) (by rw [invO_len]; omega)
  rw [invO_len, hl] at e2
  rw [e2]
  unfold endAt
  rw [invO_len, hl, O.inv_at hi]
  omega
/-- the way back, filled in up to place k -/
structure Scat (n : Nat) (t l : List Int) (k : Nat) : Prop where
  len : l.length = n
  at_ : ∀ p : Nat, p < k → ig l (ig t (p : Int) % (n : Int)) = p - ig t (p : Int) / n * n
theorem Scat.zero (n : Nat) (t : List Int) : Scat n t (List.replicate n 0) 0 := ⟨List.length_replicate, fun _ h => absurd h (Nat.not_lt_zero _)⟩
theorem Scat.step {n : Nat} {t l : List Int} {k : Nat} (O : Out n t) (S : Scat n t l k) (hk : k < n) : Scat n t (l.set (ig t (k : Int) % (n : Int)).toNat (k - ig t (k : Int) + ig t (k : Int) % (n : Int))) (k + 1) := by
  obtain ⟨r0, r1⟩ := O.res hk
  refine ⟨by rw [List.length_set, S.len], fun p hp => ?_⟩
  obtain ⟨q0, q1⟩ := O.res (i := p) (by omega)
  have e : ig t (p : Int) % (n : Int) = (((ig t (p : Int) % (n : Int)).toNat : Nat) : Int) := by omega
  rw [e, ig_set (by rw [S.len]; omega), ← e]
  by_cases h : p = k
  · subst h
    rw [if_pos rfl]
    have := Int.emod_add_mul_ediv (ig t (p : Int)) n
    rw [Int.mul_comm] at this
    omega
  · rw [if_neg fun z => h (O.inj p k (by omega) hk (by omega)), S.at_ p (by omega)]
theorem Scat.done {n : Nat} {t l : List Int} (O : Out n t) (S : Scat n t l n) : l = invO t := O.inv_uniq S.len S.at_
/-! ### calls -/
/-- the place behind a gap, and the laps between -/
def nxP (n g : Nat) : Nat := if g + 1 < n then g + 1 else 0
def shP (n g : Nat) : Int := if g + 1 < n then 0 else n
def swapT (t : List Int) (g : Nat) : List Int := (t.set g (ig t (nxP t.length g : Nat) + shP t.length g)).set (nxP t.length g) (ig t (g : Int) - shP t.length g)
/-- the rank of the copy that begins at an unrolled place -/
def rkP (r : List Int) (x : Int) : Int := ig r (x % r.length)
def passT (r t : List Int) (g : Nat) : Bool := decide (rkP r (ig t (nxP t.length g : Nat) + shP t.length g) < rkP r (ig t (g : Int)))
def callT (r t : List Int) (g : Nat) : List Int := if passT r t g = true then swapT t g else t
theorem nxP_lt {n g : Nat} (h : 0 < n) : nxP n g < n := by unfold nxP; split <;> omega
theorem nxP_ne {n g : Nat} (h : 2 ≤ n) (hg : g < n) : nxP n g ≠ g := by unfold nxP; split <;> omega
theorem shP_mod (n g : Nat) (x : Int) : (x + shP n g) % (n : Int) = x % (n : Int) ∧ (x - shP n g) % (n : Int) = x % (n : Int) := by
  unfold shP
  split
  · simp
  · exact ⟨by rw [Int.add_emod_right], by rw [Int.sub_emod_right]⟩
theorem swapT_len (t : List Int) (g : Nat) : (swapT t g).length = t.length := by simp [swapT]
theorem swapT_at {n : Nat} {t : List Int} (hl : t.length = n) {g : Nat} (hg : g < n) (p : Nat) : ig (swapT t g) (p : Int) = if nxP n g = p then ig t (g : Int) - shP n g else if g = p then ig t (nxP n g : Nat) + shP n g else ig t (p : Int) := by
  unfold swapT
  rw [hl, ig_set (by rw [List.length_set, hl]; exact nxP_lt (by omega)), ig_set (by omega)]
/-- who stands there otherwise -/
def tau (n g p : Nat) : Nat := if nxP n g = p then g else if g = p then nxP n g else p
theorem tau_lt {n g p : Nat} (hg : g < n) (hp : p < n) : tau n g p < n := by
  have := nxP_lt (n := n) (g := g) (by omega)
  unfold tau; split
  · exact hg
  · split <;> omega
theorem tau_tau {n g p : Nat} (h2 : 2 ≤ n) (hg : g < n) : tau n g (tau n g p) = p := by
  have := nxP_ne h2 hg
  unfold tau
  repeat' split
  all_goals first | omega | (simp_all; try omega)
theorem swapT_res {n : Nat} {t : List Int} (hl : t.length = n) {g : Nat} (hg : g < n) (p : Nat) : ig (swapT t g) (p : Int) % (n : Int) = ig t (tau n g p : Nat) % (n : Int) := by
  rw [swapT_at hl hg]
  unfold tau
  split
  · exact (shP_mod n g _).2
  · split
    · exact (shP_mod n g _).1
    · rfl
theorem Out.swap {n : Nat} {t : List Int} (O : Out n t) (h2 : 2 ≤ n) {g : Nat} (hg : g < n) : Out n (swapT t g) := by
  have hl := O.len
  refine ⟨by rw [swapT_len, hl], fun i j hi hj e => ?_, fun i hi => ?_, ?_⟩
  · rw [swapT_res hl hg, swapT_res hl hg] at e
    have := O.inj _ _ (tau_lt hg hi) (tau_lt hg hj) e
    rw [← tau_tau (p := i) h2 hg, this, tau_tau h2 hg]
  · obtain ⟨p, hp, e⟩ := O.sur i hi
    exact ⟨tau n g p, tau_lt hg hp, by rw [swapT_res hl hg, tau_tau h2 hg, e]⟩
  · have hx := nxP_lt (n := n) (g := g) (by omega)
    unfold swapT
    rw [hl, sum_set (by rw [List.length_set, hl]; exact hx), sum_set (by omega), ig_set (by omega), if_neg (nxP_ne h2 hg).symm, O.sum]
    omega
theorem callT_len (r t : List Int) (g : Nat) : (callT r t g).length = t.length := by
  unfold callT; split
  · exact swapT_len t g
  · rfl
theorem Out.call {n : Nat} {t : List Int} (O : Out n t) (h2 : 2 ≤ n) (r : List Int) {g : Nat} (hg : g < n) : Out n (callT r t g) := by
  unfold callT; split
  · exact O.swap h2 hg
  · exact O
/-- the copies at the places after a schedule -/
def runT (r : List Int) : List Int → List Int → List Int
  | [], t => t
  | g :: gs, t => runT r gs (callT r t g.toNat)
theorem Out.run {n : Nat} (h2 : 2 ≤ n) (r : List Int) : ∀ (gs t : List Int), (∀ g ∈ gs, 0 ≤ g ∧ g < n) → Out n t → Out n (runT r gs t)
  | [], _, _, O => O
  | g :: gs, t, h, O => by
    have := h g (List.mem_cons_self ..)
    exact Out.run h2 r gs _ (fun x hx => h x (List.mem_cons_of_mem _ hx)) (O.call h2 r (by omega))
/-- a schedule for rings of n places -/
structure Sch (n : Int) (l : List Int) : Prop where
  mem : ∀ g ∈ l, 0 ≤ g ∧ g < n
/-- the indexes of the calls at which somebody passes, from k on -/
def passed (r : List Int) : List Int → List Int → Int → List Int
  | [], _, _ => []
  | g :: gs, t, k => if passT r t g.toNat = true then k :: passed r gs (callT r t g.toNat) (k + 1) else passed r gs (callT r t g.toNat) (k + 1)
end DL
/-! the data layer, part 24: those that are carried over a moment: plain mathematics -/
namespace DL
open PySem PySem.Spec PyProof.Rows L2
theorem sum_congr {n : Nat} {f g : Nat → Int} (h : ∀ i, i < n → f i = g i) : ((List.range n).map f).sum = ((List.range n).map g).sum := by
  congr 1
  exact List.map_congr_left fun i hi => h i (List.mem_range.mp hi)
/-- two sums that differ at one place -/
theorem sum_one {f g : Nat → Int} {d : Int} {j : Nat} : ∀ {n : Nat}, j < n → (∀ i, i < n → i ≠ j → f i = g i) → f j = g j + d → ((List.range n).map f).sum = ((List.range n).map g).sum + d
  | 0, hj, _, _ => absurd hj (Nat.not_lt_zero _)
  | n + 1, hj, h, e => by
    rw [List.range_succ, List.map_append, List.map_append, List.sum_append, List.sum_append, List.map_singleton, List.map_singleton, List.sum_singleton, List.sum_singleton]
    by_cases hn : j = n
    · subst hn
      rw [sum_congr (n := j) (f := f) (g := g) fun i hi => h i (by omega) (by omega), e]
      omega
    · rw [sum_one (n := n) (by omega) (fun i hi => h i (by omega)) e, h n (by omega) (by omega)]
      omega
theorem sum_zero {n : Nat} {f : Nat → Int} (h : ∀ i, i < n → f i = 0) : ((List.range n).map f).sum = 0 := by
  rw [sum_congr h]
  induction n with
  | zero => rfl
  | succ n ih =>
    rw [List.range_succ, List.map_append, List.sum_append, ih fun i hi => h i (by omega)]
    rfl
theorem ediv_pred {n : Nat} (h : 0 < n) {x : Int} (hx : ¬ x % (n : Int) = 0) : (x - 1) / (n : Int) = x / n := by
  have r0 := Int.emod_nonneg x (show (n : Int) ≠ 0 by omega)
  have r1 := Int.emod_lt_of_pos x (show (0 : Int) < n by omega)
  have := Int.emod_add_mul_ediv x n
  rw [show x - 1 = (x % n - 1) + x / n * n by rw [Int.mul_comm (x / n) n]; omega, Int.add_mul_ediv_right _ _ (by omega), Int.ediv_eq_zero_of_lt (by omega) (by omega)]
  omega
theorem ediv_pred0 {n : Nat} (h : 0 < n) {x : Int} (hx : x % (n : Int) = 0) : (x - 1) / (n : Int) = x / n - 1 := by
  have := Int.emod_add_mul_ediv x n
  rw [show x - 1 = (n - 1 : Int) + (x / n - 1) * n by rw [Int.sub_mul, Int.mul_comm (x / n) n]; omega, Int.add_mul_ediv_right _ _ (by omega), Int.ediv_eq_zero_of_lt (by omega) (by omega)]
  omega
theorem sub_emod_zero {n : Nat} {x y : Int} (h : (x - y) % (n : Int) = 0) : x % (n : Int) = y % n := Int.emod_eq_emod_iff_emod_sub_eq_zero.mpr h
theorem emod_sub_zero {n : Nat} {x y : Int} (h : x % (n : Int) = y % n) : (x - y) % (n : Int) = 0 := Int.emod_eq_emod_iff_emod_sub_eq_zero.mp h
def boI (b : Bool) : Int := if b then 1 else 0
/-! ### how far the places lie -/
def Far (B : Nat) (t : List Int) : Prop := ∀ x ∈ t, x.natAbs ≤ B
theorem Far.ig {B : Nat} {t : List Int} (h : Far B t) (i : Nat) : (DL.ig t (i : Int)).natAbs ≤ B := by
  by_cases hi : i < t.length
  · rw [ig_get hi]
    exact h _ (List.getElem_mem _)
  · rw [ig_nat, List.getD_eq_getElem?_getD, List.getElem?_eq_none (by omega)]
    exact Nat.zero_le _
theorem Far.set {B : Nat} {t : List Int} (h : Far B t) {i : Nat} {x : Int} (hx : x.natAbs ≤ B) : Far B (t.set i x) := fun y hy => by
  rcases List.mem_or_eq_of_mem_set hy with hy | rfl
  · exact h y hy
  · exact hx
theorem Far.mono {B B' : Nat} {t : List Int} (h : Far B t) (hb : B ≤ B') : Far B' t := fun x hx => Nat.le_trans (h x hx) hb
theorem shP_bound (n g : Nat) : (shP n g).natAbs ≤ n := by unfold shP; split <;> simp
theorem Far.call {B : Nat} {t : List Int} (h : Far B t) (r : List Int) (g : Nat) : Far (B + t.length) (callT r t g) := by
  unfold callT
  split
  · unfold swapT
    have hs := shP_bound t.length g
    refine ((h.mono (by omega)).set ?_).set ?_
    · have := h.ig (nxP t.length g)
      have := Int.natAbs_add_le (DL.ig t (nxP t.length g : Nat)) (shP t.length g)
      omega
    · have := h.ig g
      have := Int.natAbs_sub_le (DL.ig t (g : Int)) (shP t.length g)
      omega
  · exact h.mono (by omega)
theorem Far.run {n : Nat} (r : List Int) : ∀ (gs : List Int) {B : Nat} {t : List Int}, t.length = n → Far B t → Far (B + n * gs.length) (runT r gs t)
  | [], B, t, _, h => h
  | g :: gs, B, t, hl, h => by
    have := Far.run r gs (B := B + n) (t := callT r t g.toNat) (by rw [callT_len, hl]) (by have := h.call r g.toNat; rwa [hl] at this)
    refine this.mono ?_
    rw [List.length_cons, Nat.mul_succ]
    omega
end DL
/-! the data layer, part 25: crossings of an outcome: plain mathematics -/
namespace DL
open PySem PySem.Spec PyProof.Rows L2
/-- the places whose rank reaches b -/
def stF (l : List Int) (b : Int) : List Int := (iota l.length).filter fun p => decide (b ≤ ig l p)
/-- what one person adds at a gap -/
def crX (n : Nat) (x p g : Int) : Int := (g - p) / n - (g - x) / n
def crS (n : Nat) (o ps : List Int) (g : Int) : Int := (ps.map fun p => crX n (ig o p) p g).sum
def crL (n : Nat) (o ps : List Int) : List Int := (iota n).map (crS n o ps)
theorem sum_filter (q : Int → Bool) (f : Int → Int) : ∀ l : List Int, ((l.filter q).map f).sum = (l.map fun x => if q x = true then f x else 0).sum
  | [] => rfl
  | x :: l => by
    rw [List.filter_cons, List.map_cons, List.sum_cons, ← sum_filter q f l]
    by_cases h : q x = true
    · rw [if_pos h, if_pos h, List.map_cons, List.sum_cons]
    · rw [if_neg h, if_neg h, Int.zero_add]
theorem sum_iota (n : Nat) (f : Int → Int) : ((iota n).map f).sum = ((List.range n).map fun (i : Nat) => f i).sum := by
  unfold iota
  rw [List.map_map]; rfl
/-- a sum over all the gaps -/
theorem hermite {n : Nat} (h : 0 < n) (m : Int) : ((List.range n).map fun (i : Nat) => ((i : Int) + m) / (n : Int)).sum = m := by
  have step : ∀ m : Int, ((List.range n).map fun (i : Nat) => ((i : Int) + m) / (n : Int)).sum = ((List.range n).map fun (i : Nat) => ((i : Int) + (m - 1)) / (n : Int)).sum + 1 := fun m => by
    have r0 := Int.emod_nonneg (-m) (show (n : Int) ≠ 0 by omega)
    have r1 := Int.emod_lt_of_pos (-m) (show (0 : Int) < n by omega)
    refine sum_one (n := n) (j := ((-m) % n).toNat) (by omega) (fun i hi hj => ?_) ?_
    · rw [show (i : Int) + (m - 1) = i - -m - 1 by omega, ediv_pred h, show (i : Int) - -m = i + m by omega]
      intro hz
      have := sub_emod_zero hz
      rw [Int.emod_eq_of_lt (a := (i : Int)) (by omega) (by omega)] at this
      omega
    · rw [show ((((-m) % (n : Int)).toNat : Nat) : Int) = (-m) % n by omega, show (-m) % (n : Int) + (m - 1) = (-m) % n - -m - 1 by omega, ediv_pred0 h (emod_sub_zero (by rw [Int.emod_emod])), show (-m) % (n : Int) - -m = (-m) % n + m by omega]
      omega
  have zero : ((List.range n).map fun (i : Nat) => ((i : Int) + 0) / (n : Int)).sum = 0 := sum_zero fun i hi => by rw [Int.add_zero]; exact Int.ediv_eq_zero_of_lt (by omega) (by omega)
  have pos : ∀ k : Nat, ((List.range n).map fun (i : Nat) => ((i : Int) + (k : Int)) / (n : Int)).sum = k := fun k => by
    induction k with
    | zero => exact zero
    | succ k ih =>
      rw [step, show ((k + 1 : Nat) : Int) - 1 = k by omega, ih]
      omega
  have neg : ∀ k : Nat, ((List.range n).map fun (i : Nat) => ((i : Int) + -(k : Int)) / (n : Int)).sum = -(k : Int) := fun k => by
    induction k with
    | zero => exact zero
    | succ k ih =>
      have := step (-(k : Int))
      rw [ih, show -(k : Int) - 1 = -((k + 1 : Nat) : Int) by omega] at this
      omega
  rcases Int.le_total 0 m with hm | hm
  · obtain ⟨k, rfl⟩ := Int.eq_ofNat_of_zero_le hm
    exact pos k
  · have := neg m.natAbs
    rwa [show -((m.natAbs : Nat) : Int) = m by omega] at this
theorem crX_sum {n : Nat} (h : 0 < n) (x p : Int) : ((iota n).map (crX n x p)).sum = x - p := by
  rw [sum_iota]
  unfold crX
  rw [sum_map_sub]
  have h1 := hermite h (-p)
  have h2 := hermite h (-x)
  have e1 : ((List.range n).map fun (i : Nat) => ((i : Int) - p) / (n : Int)).sum = -p := h1
  have e2 : ((List.range n).map fun (i : Nat) => ((i : Int) - x) / (n : Int)).sum = -x := h2
  rw [e1, e2]
  omega
theorem sum_map_zero {α : Type} (l : List α) : (l.map fun _ => (0 : Int)).sum = 0 := by
  induction l with
  | nil => rfl
  | cons x l ih => rw [List.map_cons, List.sum_cons, ih]; rfl
/-- all gaps together -/
theorem crL_sum {n : Nat} (h : 0 < n) (o : List Int) : ∀ ps : List Int, (crL n o ps).sum = (ps.map fun p => ig o p - p).sum
  | [] => sum_map_zero _
  | p :: ps => by
    have ih := crL_sum h o ps
    unfold crL at ih ⊢
    rw [List.map_cons, List.sum_cons, ← ih, ← crX_sum h (ig o p) p, ← sum_map_add]
    congr 1
theorem rgD_iota (n : Nat) : rgD 0 (n : Int) = (iota n).map D.int := by
  rw [rgD_nat]; rfl
end DL
/-! the data layer, part 26: sorted(set(l)), l a list of ints -/
namespace DL
open PySem PySem.Spec PyProof.Rows L2
section
variable {P : Program} {w : World} {A : Around} {E : Value → Shared → Prop} {s : Shared}
abbrev newSet (w : World) : Obj := { cls := .type "set", dict := none, data := .set #[] 0 (.fresh 0 0 (!w.params.followText "set-order")) }
/-- a new set is filled from a list of ints -/
theorem set_filled {l : Addr} {items : Array Value} {ns : List Int} {Q : Value → Shared → Prop} (hh : A.handled = none) (hl : s.heap.IsList l items) (hi : IntsAre items.toList ns) (hb : ns.length + 1 < scanBound)
    (h : ∀ (h' : Heap) (tk c : Nat), SetR w h' s.heap.objs.size (fun j => decide (j ∈ ns)) c → c ≤ ns.length → (∀ b o, s.heap.get? b = some o → h'.get? b = some o) → Q .none { s with heap := h', toks := tk }) :
    wpAny (model P w) A.in1 (Builtin.«set.__init__» ⟨[.ref s.heap.objs.size, .ref l], []⟩)
      (fun fin s' => match fin with | .done f => wants Q E (.ok f) s' | .again c' => c'.quiet = true ∧ codeAny (model P w) A c' (wants Q E) s')
      (fun e s' => wants Q E (.error e) s') { s with heap := s.heap.push (newSet w) } := by
  have hz : (s.heap.push (newSet w)).objs.size = s.heap.objs.size + 1 := Heap.size_push ..
  have hS : (s.heap.push (newSet w)).get? s.heap.objs.size = some (newSet w) := Heap.get?_push_size _ rfl
  have hsz : items.size = ns.length := by
    have := IntsAre.length hi
    rwa [Array.length_toList] at this
  have hlt : l < s.heap.objs.size := by obtain ⟨o, ho, _⟩ := hl; exact Heap.lt_size ho
  have hl1 : (s.heap.push (newSet w)).IsList l items := hl.push _
  obtain ⟨⟨c, dd, dt, sl⟩, ho, hc, nl, hd⟩ := hl1
  replace hc : c = .type "list" := hc
  replace hd : dt = .seq items nl := hd
  subst hc hd
  have f1 := F.sub_list_set
  have f2 := F.sub_list_frozenset
  have f3 : (Value.type "list" == Value.type "dict") = false := by decide
  have hl1 : (s.heap.push (newSet w)).IsList l items := ⟨_, ho, rfl, nl, rfl⟩
  unfold Builtin.«set.__init__» noKeywords Builtin.Frozenset.updateFrom
  generalize hPI : pyIter = PI
  wp_walk
  subst hPI
  refine wpAny_pyIter_list hl1 (wpAny_bind (wpAny_runValue ?_))
  have hne : l ≠ (s.heap.push (newSet w)).objs.size := by rw [hz]; exact Nat.ne_of_lt (Nat.lt_succ_of_lt hlt)
  refine set_update_ints ((Walks.list (by simp [hh]) _ l hne items).toS) s.heap.objs.size (by simp only [List.mem_cons, List.not_mem_nil, or_false, not_or]; rw [hz]; exact ⟨Nat.ne_of_lt (Nat.lt_succ_self _), Nat.ne_of_gt hlt⟩) ns hsz hb (fun i v hv => ?_) (items.size - 0) 0 _ (by omega) (Nat.zero_le _)
    ⟨⟨_, Heap.get?_push_size _ rfl, rfl, rfl⟩, hl1.push _⟩ ⟨0, Nat.le_refl 0, setR_new_at (Heap.get?_push_of_some _ hS)⟩ fun s' c' hm hc' hR => ?_
  · obtain ⟨hlt2, _⟩ := Array.getElem?_eq_some_iff.mp hv
    obtain ⟨t, e⟩ := PyProof.Rows.IntsAre.int_at hi i v (by rw [Array.getElem?_toList]; exact hv)
    refine ⟨ns[i], t, List.getElem?_eq_getElem (by omega), ?_⟩
    rw [e, List.getD_eq_getElem?_getD, List.getElem?_eq_getElem (by omega)] <;> rfl
  · obtain ⟨h', g', d', tk', os'⟩ := s'
    obtain rfl : g' = s.gens := hm.gens
    obtain rfl : d' = s.drawn := hm.drawn
    obtain rfl : os' = s.os := hm.os
    refine wpAny_pure ?_
    show wpAny _ _ (ret Value.none) _ _ _
    refine wpAny_pure (h h' tk' c' hR (by omega) fun b o e => ?_)
    have hb0 : b < s.heap.objs.size := Heap.lt_size e
    exact hm.heap b o (by simp only [List.mem_cons, List.not_mem_nil, or_false, not_or]; rw [hz]; exact ⟨Nat.ne_of_lt hb0, Nat.ne_of_lt (Nat.lt_succ_of_lt hb0)⟩) (Heap.get?_push_of_some _ (Heap.get?_push_of_some _ e))
/-- set(l), l a list of ints -/
theorem set_of_list {l : Addr} {items : Array Value} {ns : List Int} {Q : Value → Shared → Prop} (hh : A.handled = none) (hl : s.heap.IsList l items) (hi : IntsAre items.toList ns) (hb : ns.length + 1 < scanBound)
    (h : ∀ (h' : Heap) (tk c : Nat), SetR w h' s.heap.objs.size (fun j => decide (j ∈ ns)) c → c ≤ ns.length → (∀ b o, s.heap.get? b = some o → h'.get? b = some o) → Q (.ref s.heap.objs.size) { s with heap := h', toks := tk }) :
    wpAny (model P w) A (call (.type "set") [.ref l]) Q E s := by
  have ft := F.called_set
  obtain ⟨c, tl, hmro⟩ := ft.mro
  have hmade := ft.made
  have hsub := ft.sub
  refine wpAny_call (codeAny_of_tree ?_)
  show wpAny _ _ (callAny (.type "set") _) _ _ _
  refine wpAny_pure ⟨Code.quiet_builtin _ (by decide +kernel), codeAny_builtin F.entry_type_call ?_⟩
  rw [Around.under_plain (weight_type_call_type "set" [.ref l] []) rfl]
  have h1 := ft.notType
  have h2 := ft.canCreate
  have h3 := F.typeCall_set_1 (.ref l)
  repeat (any_goals (first | assumption | wp_step))
  refine codeAny_mono (code_set_led1 (.ref l) (E := E) (Q₁ := fun obj s₁ => obj = .ref s.heap.objs.size ∧ s₁ = { s with heap := s.heap.push (newSet w) }) ⟨rfl, rfl⟩) fun r s₁ hr => ?_
  match r, hr with
  | .error e, hr => exact hr
  | .ok (.ret obj), hr =>
    obtain ⟨rfl, rfl⟩ := hr
    have hT : Shared.TypeIs { s with heap := s.heap.push (newSet w) } (.ref s.heap.objs.size) "set" := ⟨_, Heap.get?_push_size _ rfl, rfl⟩
    have hli := ft.init.lookup
    have hbi := ft.init.bind (.ref s.heap.objs.size)
    repeat (any_goals (first | assumption | wp_step))
    refine codeAny_mono (codeAny_call_builtin (R := wants (fun r s₂ => r = .none ∧ Q (.ref s.heap.objs.size) s₂) E) ft.init.plain F.entry_set_init (check_set_init_1 hT (set_filled (by simp [hh]) hl hi hb fun h' tk c a b d => ⟨rfl, h h' tk c a b d⟩))) fun r₂ s₂ hr₂ => ?_
    match r₂, hr₂ with
    | .error e, hr₂ => exact hr₂
    | .ok (.ret r), hr₂ =>
      obtain ⟨rfl, hq⟩ := hr₂
      repeat (any_goals (first | assumption | wp_step))
end
/-! ### sorted(set(l)) -/
def rSetL (K : Fg) (w : World) : List V → Hp → VK → Prop := fun vs H Q => ∃ (l : Addr) (ns : List Int), vs = [.ref l] ∧ SqL K H l (ns.map V.int) ∧ ns.length + 1 < scanBound ∧ ∀ a c, c ≤ ns.length → H a = none → Q (.ref a) (upd H a (SetO w a (fun j => decide (j ∈ ns)) c))
section
variable {X : Cx} {C : Ctx}
theorem cr_setL (hc : X.calm = true) : CallR X (.type "set") (rSetL X.K X.w) := by
  intro pins s σ H vs us Q I r h
  obtain ⟨l, ns, rfl, hl, hb, q⟩ := h
  obtain ⟨its, rv, p, hz⟩ := I.list hl
  rw [Vals.ref1 r]
  refine set_of_list (I.ok.hd hc) p.isList (ns := ns) (ints_of_vals rv) hb fun h' tk c R hcl hk => ?_
  exact ⟨.ref _, upd H s.heap.objs.size (SetO X.w s.heap.objs.size (fun j => decide (j ∈ ns)) c), I.laid (t' := tk) hk (Nat.le_refl _) (setO_new R), rfl, q _ c hcl (I.hok.fresh (Nat.le_refl _))⟩
def tSS (K : Fg) (w : World) (ta : TE) : TE := tCB (rSortedSet w) (tCons (tCB (rSetL K w) (tCons ta tNil)) tNil)
def mSS (ma : DTE) : DTE := fun Γ Q => ma Γ fun r Γ1 => ∃ ds ns, rd Γ1 r = some (.lst ds) ∧ ints? ds = some ns ∧ ns.length < 64 ∧ ∀ ms : List Int, ms.Pairwise (· < ·) → (∀ k, k ∈ ms ↔ k ∈ ns) → Q (.fr (.lst (ms.map D.int))) Γ1
theorem sim_ss {w : World} {ta : TE} {ma : DTE} (ha : SimE C ta ma) : SimE C (tSS C.K w ta) (mSS ma) := fun Γ O σ H Qd Q R h k => by
  refine ha Γ O σ H _ _ R h fun r Γ1 v H1 R1 e1 q1 => ?_
  obtain ⟨ds, ns, hd, hi, h64, q⟩ := q1
  obtain ⟨a, vs, rfl, e, rr⟩ := (R1.pend.b2 R1.rel hd).lst
  obtain rfl := ints?_eq hi
  obtain rfl := rr.ints
  refine ⟨a, ns, rfl, SqL.of e, Nat.lt_of_le_of_lt (Nat.succ_le_of_lt h64) (by decide), fun b c hc hb => ?_⟩
  refine ⟨b, _, c, rfl, upd_same, Nat.lt_of_le_of_lt hc h64, fun ms p hs hm hl hp => ?_⟩
  have R2 := R1.rel.alloc (o := SetO w b (fun j => decide (j ∈ ns)) c) hb
  exact (outs_of R2 (L2.Same.trans e1.1 (hide_new hb)) k).new p _ _ hp (.lst (Reps.of_ints ms)) (q ms hs fun j => by rw [hm]; exact decide_eq_true_iff)
theorem de_ss {a : Expr} {ta : TE} {ma : DTE} {p pos p2 pos2 : Pos} (hc : X.calm = true) (hg : Gl X "sorted") (hm : X.mg "sorted" = none) (hg2 : Gl X "set") (hm2 : X.mg "set" = none) (ha : DE X C a ta ma) {K0 : Fg} (hK0 : X.K = K0 := by rfl) (hK : K0 = C.K := by rfl) {w0 : World} (hw0 : X.w = w0 := by rfl)
    (he : starEach [a] X.env = (false, eval a X.env) :: starEach [] X.env := by rfl) (he2 : starEach [.Call (.Name "set" p2) [a] [] pos2] X.env = (false, eval (.Call (.Name "set" p2) [a] [] pos2) X.env) :: starEach [] X.env := by rfl) :
    DE X C (.Call (.Name "sorted" p) [.Call (.Name "set" p2) [a] [] pos2] [] pos) (tSS K0 w0 ta) (mSS ma) := by
  subst hK0
  subst hw0
  refine ⟨pe_callB (cr_sortedSet hc) hg hm (by decide +kernel) (pa_cons (pe_callTy (cr_setL hc) hg2 hm2 boot_set (pa_cons ha.pe pa_nil he) (he := he) (hpl := rfl)) pa_nil he2) (he := he2) (hpl := rfl), ?_⟩
  rw [hK]
  exact sim_ss ha.sim
end
section
variable {ma : DTE} {Γ : Env} {Q : QE} {r : Res}
def ssk (r : Res) (Γ1 : Env) (Q : QE) : Prop := ∃ ds ns, rd Γ1 r = some (.lst ds) ∧ ints? ds = some ns ∧ ns.length < 64 ∧ ∀ ms : List Int, ms.Pairwise (· < ·) → (∀ k, k ∈ ms ↔ k ∈ ns) → Q (.fr (.lst (ms.map D.int))) Γ1
theorem w_SS (h : ma Γ fun r Γ1 => ssk r Γ1 Q) : mSS ma Γ Q := h
theorem w_ss {l : List Int} (h1 : rd Γ r = some (.lst (l.map D.int))) (h2 : l.length < 64) (h : ∀ ms : List Int, ms.Pairwise (· < ·) → (∀ k, k ∈ ms ↔ k ∈ l) → Q (.fr (.lst (ms.map D.int))) Γ) : ssk r Γ Q := ⟨_, l, h1, ints?_map l, h2, h⟩
end
end DL
/-! the data layer, part 27: the members of a list in rising order: plain mathematics -/
namespace DL
open PySem PySem.Spec PyProof.Rows L2
end DL
/-! the data layer, part 28: a new list is changed and dropped -/
namespace DL
open PySem PySem.Spec PyProof.Rows L2
/-- o.m(n) of a new list that nobody keeps -/
def mMutF (f : D → List D → (D → Res → Prop) → Prop) (mo : DTE) (as : List D) : DTE := fun Γ Q => mo Γ fun ro Γ1 => ∃ ds, ro = .fr (.lst ds) ∧ f (.lst ds) as fun _ z => Q z Γ1
section
variable {mo : DTE} {Γ : Env} {Q : QE} {r : Res}
def mfk (f : D → List D → (D → Res → Prop) → Prop) (as : List D) (r : Res) (Γ1 : Env) (Q : QE) : Prop := ∃ ds, r = .fr (.lst ds) ∧ f (.lst ds) as fun _ z => Q z Γ1
theorem e_MutF {f : D → List D → (D → Res → Prop) → Prop} {as : List D} (h : mo Γ fun r Γ1 => mfk f as r Γ1 Q) : mMutF f mo as Γ Q := h
theorem e_mutF {f : D → List D → (D → Res → Prop) → Prop} {as ds : List D} (h : f (.lst ds) as fun _ z => Q z Γ) : mfk f as (.fr (.lst ds)) Γ Q := ⟨ds, rfl, h⟩
end
end DL
/-! the data layer, part 29: block rings: plain mathematics -/
namespace DL
open PySem PySem.Spec PyProof.Rows L2
/-- the ranks of a ring with c strong places, the last of them at x -/
def blk (n : Nat) (c x : Int) : List Int := (iota n).map fun p => if (x - p) % (n : Int) < c then 1 else 0
theorem blk_len (n : Nat) (c x : Int) : (blk n c x).length = n := by unfold blk; rw [List.length_map, iota_len]
theorem ig_blk {n p : Nat} (c x : Int) (h : p < n) : ig (blk n c x) (p : Int) = if (x - p) % (n : Int) < c then 1 else 0 := by
  unfold blk
  rw [ig_map (by rw [iota_len]; exact h), ig_iota h]
theorem anyE_ints (p : Int) : ∀ l : List Int, (l.map D.int).any (fun z => eqv z (.int p)) = decide (p ∈ l)
  | [] => by simp
  | y :: l => by
    rw [List.map_cons, List.any_cons, anyE_ints p l, eqv_int]
    by_cases h : p = y
    · subst h; simp
    · have h' : ¬ y = p := fun z => h z.symm
      simp [h, h']
/-- the strong places as they are named by the steps back from the last -/
theorem blk_mem {n : Nat} (h : 0 < n) {c : Nat} {x p : Int} (hp0 : 0 ≤ p) (hp1 : p < n) (hc : c ≤ n) : p ∈ (iota c).map (fun s => (x - s) % (n : Int)) ↔ (x - p) % (n : Int) < c := by
  rw [List.mem_map]
  constructor
  · rintro ⟨s, hs, rfl⟩
    obtain ⟨s0, s1⟩ := mem_iota.mp hs
    have e : (x - (x - s) % (n : Int)) % (n : Int) = s := by
      rw [Int.sub_emod, Int.emod_emod, ← Int.sub_emod, show x - (x - s) = s by omega, Int.emod_eq_of_lt s0 (by omega)]
    omega
  · intro hlt
    have r0 := Int.emod_nonneg (x - p) (show (n : Int) ≠ 0 by omega)
    refine ⟨(x - p) % n, mem_iota.mpr ⟨r0, hlt⟩, ?_⟩
    rw [Int.sub_emod, Int.emod_emod, ← Int.sub_emod, show x - (x - p) = p by omega, Int.emod_eq_of_lt hp0 hp1]
end DL
/-! the data layer, part 30: data in data: nice, equal -/
namespace DL
open PySem PySem.Spec PyProof.Rows L2
/-- nice, at most k deep, of weight at most w -/
structure Ni (k w : Nat) (d : D) : Prop where
  nice : niceD 256 d = true
  deep : (toPy d).depth ≤ k
  wt : wtD 256 d ≤ w
structure Nis (k w : Nat) (ds : List D) : Prop where
  nice : nicesD 256 ds = true
  deep : PyData.depthAll (toPys ds) ≤ k
  wt : wtsD 256 ds ≤ w
theorem Ni.done {k w : Nat} {d : D} (h : Ni k w d) (hk : k ≤ 20) (hw : w ≤ 900000) : NiceD d := ⟨h.nice, Nat.le_trans h.deep hk, Nat.le_trans h.wt hw⟩
theorem Nis.nil : Nis 0 0 [] := ⟨rfl, by rw [toPys, PyData.depthAll]; exact Nat.le_refl _, by rw [wtsD]; exact Nat.le_refl _⟩
theorem Nis.cons {k w k2 w2 : Nat} {d : D} {ds : List D} (h : Ni k w d) (t : Nis k2 w2 ds) : Nis (max k k2) (w + 2 + w2) (d :: ds) := by
  refine ⟨by rw [nicesD, h.nice, t.nice]; rfl, ?_, ?_⟩
  · rw [toPys, PyData.depthAll]
    have := h.deep
    have := t.deep
    omega
  · rw [wtsD]
    have := h.wt
    have := t.wt
    omega
theorem Ni.lst {k w : Nat} {ds : List D} (h : Nis k w ds) : Ni (k + 1) (w + 4) (.lst ds) := by
  refine ⟨by rw [niceD]; exact h.nice, ?_, ?_⟩
  · rw [toPy, PyData.depth]
    have := h.deep
    omega
  · rw [wtD]
    have := h.wt
    omega
theorem Ni.tup {k w : Nat} {ds : List D} (h : Nis k w ds) : Ni (k + 1) (w + 4) (.tup ds) := by
  refine ⟨by rw [niceD]; exact h.nice, ?_, ?_⟩
  · rw [toPy, PyData.depth]
    have := h.deep
    omega
  · rw [wtD]
    have := h.wt
    omega
theorem Ni.int {i : Int} (h : i.natAbs < 2 ^ 256) : Ni 0 257 (.int i) := ⟨decide_eq_true h, by simp [toPy, PyData.depth], by simp [wtD]⟩
theorem Ni.bl {b : Bool} : Ni 0 5 (.bl b) := ⟨rfl, by simp [toPy, PyData.depth], by simp [wtD]⟩
theorem Ni.non : Ni 0 5 .non := ⟨rfl, by decide, by decide⟩
theorem Nis.ints {l : List Int} (h : ∀ x ∈ l, x.natAbs < 2 ^ 256) {m : Nat} (hl : l.length ≤ m) : Nis 0 (m * 259) (l.map D.int) := by
  refine ⟨nices_ints h, by rw [toPys_ints, depth_ints]; exact Nat.le_refl _, ?_⟩
  rw [wts_ints]
  exact Nat.mul_le_mul_right _ hl
theorem Ni.ints {l : List Int} (h : ∀ x ∈ l, x.natAbs < 2 ^ 256) {m : Nat} (hl : l.length ≤ m) : Ni 1 (m * 259 + 4) (.lst (l.map D.int)) := Ni.lst (Nis.ints h hl)
/-- many nice data -/
theorem Nis.all {k w : Nat} : ∀ {ds : List D}, (∀ d ∈ ds, Ni k w d) → Nis k (ds.length * (w + 2)) ds
  | [], _ => ⟨rfl, by rw [toPys, PyData.depthAll]; exact Nat.zero_le _, by rw [wtsD]; exact Nat.zero_le _⟩
  | d :: ds, h => by
    have t := Nis.all (ds := ds) fun e he => h e (List.mem_cons_of_mem _ he)
    have c := Nis.cons (h d (List.mem_cons_self ..)) t
    refine ⟨c.nice, by have := c.deep; omega, ?_⟩
    have := c.wt
    rw [List.length_cons, Nat.succ_mul]
    omega
end DL
/-! the data layer, part 31: repr and len of own objects, {list} in an f-string -/
namespace DL
open PySem PySem.Spec PyProof.Rows L2
end DL
/-! the data layer, part 32: repr and len of own objects, f-strings: over data -/
namespace DL
open PySem PySem.Spec PyProof.Rows L2
def rpk (Γ2 : Env) (Q : QE) : Bool → D → List D → Prop := fun b d ds' => ∃ Γ3, putsD [] ds' Γ2 = some Γ3 ∧ (Γ3 = Γ2 ∧ ∃ z, (if b = true then frOf d else .val d) = .val (.str z) ∧ Q (.val (.str z)) Γ2)
theorem rpk_in {Γ2 : Env} {Q : QE} {z : Str} (h : Q (.val (.str z)) Γ2) : rpk Γ2 Q false (.str z) [] := ⟨Γ2, rfl, rfl, z, rfl, h⟩
def lnk (Γ2 : Env) (Q : QE) : Bool → D → List D → Prop := fun b d ds' => ∃ Γ3, putsD [] ds' Γ2 = some Γ3 ∧ (Γ3 = Γ2 ∧ ∃ z : Int, (if b = true then frOf d else .val d) = .val (.int z) ∧ 0 ≤ z ∧ z < 2 ^ 63 ∧ Q (.val (.int z)) Γ2)
theorem lnk_in {Γ2 : Env} {Q : QE} {z : Int} (h0 : 0 ≤ z) (h1 : z < 2 ^ 63) (h : Q (.val (.int z)) Γ2) : lnk Γ2 Q false (.int z) [] := ⟨Γ2, rfl, rfl, z, rfl, h0, h1, h⟩
def mReprO (C : Addr) (sd : DSp) (ma : DTE) : DTE := fun Γ Q => ma Γ fun ra Γ1 => ∃ ns ds, dat ra = some (.obj C ns ds) ∧ sd [.obj C ns ds] (rpk Γ1 Q) noX
def mLenO (C : Addr) (sd : DSp) (ma : DTE) : DTE := fun Γ Q => ma Γ fun ra Γ1 => ∃ ns ds, dat ra = some (.obj C ns ds) ∧ sd [.obj C ns ds] (lnk Γ1 Q) noX
/-! ### f-strings -/
section
variable {X : Cx} {C : Ctx}
def fmtD : D → Option Str
  | .str y => if y.length ≤ 1000000 then some y else none
  | .int i => if i.natAbs.log2 < 1920 then some (toString i) else none
  | .lst ds => if okR (.lst ds) = true then some (toPy (.lst ds)).shown else none
  | .tup ds => if okR (.tup ds) = true then some (toPy (.tup ds)).shown else none
  | _ => none
def mFmt (ma : DTE) : DTE := fun Γ Q => ma Γ fun r Γ1 => ∃ d y, rd Γ1 r = some d ∧ fmtD d = some y ∧ Q (.val (.str y)) Γ1
/-- the parts, one behind the other -/
def mJs : List DTE → Str → Env → (Str → Env → Prop) → Prop
  | [], acc, Γ, Q => Q acc Γ
  | m :: ms, acc, Γ, Q => m Γ fun r Γ1 => ∃ y, r = .val (.str y) ∧ (acc ++ y).length ≤ 1000000 ∧ mJs ms (acc ++ y) Γ1 Q
def mJoined (ms : List DTE) : DTE := fun Γ Q => mJs ms Str.empty Γ fun y Γ1 => Q (.val (.str y)) Γ1
end
/-! ### rules and steps -/
section
variable {C0 : Addr} {sd : DSp} {m ma : DTE} {ms : List DTE} {Γ : Env} {Q : QE} {r : Res} {d : D} {acc : Str}
def rok (C0 : Addr) (sd : DSp) (r : Res) (Γ1 : Env) (Q : QE) : Prop := ∃ ns ds, dat r = some (.obj C0 ns ds) ∧ sd [.obj C0 ns ds] (rpk Γ1 Q) noX
theorem e_ReprO (h : ma Γ fun r Γ1 => rok C0 sd r Γ1 Q) : mReprO C0 sd ma Γ Q := h
theorem e_reprO {ns : List Str} {ds : List D} (h1 : dat r = some (.obj C0 ns ds)) (h : sd [.obj C0 ns ds] (rpk Γ Q) noX) : rok C0 sd r Γ Q := ⟨ns, ds, h1, h⟩
def lok (C0 : Addr) (sd : DSp) (r : Res) (Γ1 : Env) (Q : QE) : Prop := ∃ ns ds, dat r = some (.obj C0 ns ds) ∧ sd [.obj C0 ns ds] (lnk Γ1 Q) noX
theorem e_LenO (h : ma Γ fun r Γ1 => lok C0 sd r Γ1 Q) : mLenO C0 sd ma Γ Q := h
theorem e_lenO {ns : List Str} {ds : List D} (h1 : dat r = some (.obj C0 ns ds)) (h : sd [.obj C0 ns ds] (lnk Γ Q) noX) : lok C0 sd r Γ Q := ⟨ns, ds, h1, h⟩
def fmk (r : Res) (Γ1 : Env) (Q : QE) : Prop := ∃ d y, rd Γ1 r = some d ∧ fmtD d = some y ∧ Q (.val (.str y)) Γ1
theorem e_Fmt (h : ma Γ fun r Γ1 => fmk r Γ1 Q) : mFmt ma Γ Q := h
theorem e_fmtL {ds : List D} (h1 : rd Γ r = some (.lst ds)) (h2 : okR (.lst ds) = true) (h : Q (.val (.str (toPy (.lst ds)).shown)) Γ) : fmk r Γ Q := ⟨_, _, h1, if_pos h2, h⟩
theorem e_Joined (h : mJs ms Str.empty Γ fun y Γ1 => Q (.val (.str y)) Γ1) : mJoined ms Γ Q := h
theorem e_jsN {Qs : Str → Env → Prop} (h : Qs acc Γ) : mJs [] acc Γ Qs := h
def jsk (ms : List DTE) (acc : Str) (r : Res) (Γ1 : Env) (Qs : Str → Env → Prop) : Prop := ∃ y, r = .val (.str y) ∧ (acc ++ y).length ≤ 1000000 ∧ mJs ms (acc ++ y) Γ1 Qs
theorem e_Js {Qs : Str → Env → Prop} (h : m Γ fun r Γ1 => jsk ms acc r Γ1 Qs) : mJs (m :: ms) acc Γ Qs := h
theorem e_js {Qs : Str → Env → Prop} {y : Str} (h1 : (acc ++ y).length ≤ 1000000) (h : mJs ms (acc ++ y) Γ Qs) : jsk ms acc (.val (.str y)) Γ Qs := ⟨y, rfl, h1, h⟩
end
end DL
/-! the data layer, part 33: places are looked at as shared data while one expression that answers a plain value is read -/
namespace DL
open PySem PySem.Spec PyProof.Rows L2
def shS : Sl → Sl
  | .no => .no
  | .sh d => .sh d
  | .ow d => .sh d
  | .io d => .sh d
  | .bo d => .sh d
  | .pn _ _ => .no
def allSh (Γ : Env) : Env := Γ.map shS
def scal : D → Bool
  | .non => true
  | .bl _ => true
  | .int _ => true
  | .str _ => true
  | _ => false
def mBor (me : DTE) : DTE := fun Γ Q => me (allSh Γ) fun r _ => ∃ d, r = .val d ∧ scal d = true ∧ Q (.val d) Γ
section
variable {Γ Γ' : Env} {Q : QE} {me : DTE}
def bok (Γ : Env) (Q : QE) (r : Res) : Prop := ∃ d, r = .val d ∧ scal d = true ∧ Q (.val d) Γ
theorem e_Bor (h1 : allSh Γ = Γ') (h : me Γ' fun r _ => bok Γ Q r) : mBor me Γ Q := by subst h1; exact h
theorem e_bor {d : D} (h1 : scal d = true) (h : Q (.val d) Γ) : bok Γ Q (.val d) := ⟨d, rfl, h1, h⟩
end
theorem i_addS {x y : Str} {Q : Res → Prop} (h1 : x.length + y.length ≤ 100000) (h : Q (.val (.str (x ++ y)))) : addD (.str x) (.str y) Q := ⟨h1, h⟩
theorem Ni.str {x : Str} {m : Nat} (h : PyData.strOk x = true) (hl : x.length ≤ m) : Ni 0 (10 * m + 5) (.str x) := ⟨by rw [niceD]; exact h, by simp [toPy, PyData.depth], by rw [wtD]; omega⟩
end DL
/-! the data layer, part 34: reversed, zip; new lists that are kept in a list, looked at, and spoiled in the end -/
namespace DL
open PySem PySem.Spec PyProof.Rows L2 RT
/-! ### reversed(e), e a list or a tuple -/
def mRev (ma : DTE) : DTI := fun Γ Q => ma Γ fun r Γ1 => ∃ d ds, rd Γ1 r = some d ∧ itemsOf d = some ds ∧ Q (srcOf d r) ds.reverse Γ1
/-! ### zip of two shared lists -/
def zipD (ds es : List D) : List D := List.zipWith (fun a b => D.tup [a, b]) ds es
def mZip (ma mb : DTE) : DTI := fun Γ Q => ma Γ fun r Γ1 => mb Γ1 fun r2 Γ2 => ∃ ds es, dat r = some (.lst ds) ∧ dat r2 = some (.lst es) ∧ Q (.v2 (.lst ds) (.lst es)) (zipD ds es) Γ2
/-! ### a box: what stands before stays, what is new is thrown away -/
def boxS : Sl → Sl
  | .no => .no
  | .sh d => .bo d
  | .ow d => .bo d
  | .io d => .bo d
  | .bo d => .bo d
  | .pn _ _ => .no
def noPn : Sl → Bool
  | .pn _ _ => false
  | _ => true
/-- slots with true are used anew in the box -/
def boxE : List Bool → Env → Env
  | true :: bs, _ :: Γ => .no :: boxE bs Γ
  | false :: bs, s :: Γ => boxS s :: boxE bs Γ
  | _, _ => []
def killE : List Bool → Env → Env
  | true :: bs, _ :: Γ => .no :: killE bs Γ
  | false :: bs, s :: Γ => s :: killE bs Γ
  | _, _ => []
def freeE : List Bool → Env → Bool
  | [], [] => true
  | true :: bs, s :: Γ => freeB [s] 0 && freeE bs Γ
  | false :: bs, s :: Γ => noPn s && freeE bs Γ
  | _, _ => false
/-- a name that stays in the box -/
def mKept (i : Nat) : DTE := fun Γ Q => match Γ[i]? with
  | some (.bo d) => Q (.val d) Γ
  | some (.sh d) => Q (.val d) Γ
  | some (.ow _) => Q (.pl i) Γ
  | _ => False
/-! ### new lists in a list, looked at, then changed -/
def frsD : List Res → Option (List D)
  | [] => some []
  | .fr d :: rs => match frsD rs with
    | some ds => some (d :: ds)
    | none => none
  | _ => none
def lstsOk : List D → Prop
  | [] => True
  | d :: ds => (∃ xs, d = .lst xs ∧ xs.length < 100000) ∧ lstsOk ds
def mScr (f x : Nat) (mask : List Bool) (mp : DTP) (mm : DTS) : DTS := fun D Γ => mp Γ fun rs Γ1 => ∃ ds, frsD rs = some ds ∧ lstsOk ds ∧ ds.length ≤ 1000 ∧ freeE mask Γ1 = true ∧ mask[f]? = some true ∧ mask[x]? = some true ∧ f ≠ x ∧
  mm ⟨fun Γ3 => Γ3.length = Γ1.length ∧ D.nx (killE mask Γ1), fun r Γ3 => Γ3.length = Γ1.length ∧ ∃ d, r = .val d ∧ scal d = true ∧ D.rt (.val d) (killE mask Γ1), fun _ => False, fun _ => False⟩ ((boxE mask Γ1).set f (.bo (.lst ds)))
section
variable {Γ Γ' : Env} {nx bk ct : Env → Prop} {rt : Res → Env → Prop} {Q : QE} {d : D} {mp : DTP} {mm : DTS} {i f x : Nat} {mask : List Bool} {rs : List Res} {ds : List D}
theorem e_kb (h1 : Γ[i]? = some (.bo d)) (h : Q (.val d) Γ) : mKept i Γ Q := by unfold mKept; rw [h1]; exact h
theorem e_ks (h1 : Γ[i]? = some (.sh d)) (h : Q (.val d) Γ) : mKept i Γ Q := by unfold mKept; rw [h1]; exact h
theorem e_ko (h1 : Γ[i]? = some (.ow d)) (h : Q (.pl i) Γ) : mKept i Γ Q := by unfold mKept; rw [h1]; exact h
def sck2 (f x : Nat) (mask : List Bool) (mm : DTS) (nx : Env → Prop) (rt : Res → Env → Prop) (rs : List Res) (Γ1 : Env) : Prop := ∃ ds, frsD rs = some ds ∧ lstsOk ds ∧ ds.length ≤ 1000 ∧ freeE mask Γ1 = true ∧ mask[f]? = some true ∧ mask[x]? = some true ∧ f ≠ x ∧
  mm ⟨fun Γ3 => Γ3.length = Γ1.length ∧ nx (killE mask Γ1), fun r Γ3 => Γ3.length = Γ1.length ∧ ∃ d, r = .val d ∧ scal d = true ∧ rt (.val d) (killE mask Γ1), fun _ => False, fun _ => False⟩ ((boxE mask Γ1).set f (.bo (.lst ds)))
def bxn (Γ : Env) (p : Prop) : Env → Prop := fun Γ3 => Γ3.length = Γ.length ∧ p
def bxr (Γ : Env) (rt : Res → Env → Prop) (Γk : Env) : Res → Env → Prop := fun r Γ3 => Γ3.length = Γ.length ∧ ∃ d, r = .val d ∧ scal d = true ∧ rt (.val d) Γk
theorem b_nx {p : Prop} (h1 : Γ'.length = Γ.length) (h : p) : bxn Γ p Γ' := ⟨h1, h⟩
theorem b_rt {Γk : Env} (h1 : Γ'.length = Γ.length) (h2 : scal d = true) (h : rt (.val d) Γk) : bxr Γ rt Γk (.val d) Γ' := ⟨h1, d, rfl, h2, h⟩
theorem s_Scr (h : mp Γ fun rs Γ1 => sck2 f x mask mm nx rt rs Γ1) : mScr f x mask mp mm (.mk nx rt bk ct) Γ := h
theorem s_scr {Γk : Env} (h1 : frsD rs = some ds) (h2 : ds.length ≤ 1000) (h3 : freeE mask Γ = true) (h4 : mask[f]? = some true ∧ mask[x]? = some true ∧ f ≠ x) (h5 : killE mask Γ = Γk) (h6 : (boxE mask Γ).set f (.bo (.lst ds)) = Γ') (h0 : lstsOk ds)
    (h : mm (.mk (bxn Γ (nx Γk)) (bxr Γ rt Γk) (fun _ => False) (fun _ => False)) Γ') : sck2 f x mask mm nx rt rs Γ := by
  subst h5; subst h6
  exact ⟨ds, h1, h0, h2, h3, h4.1, h4.2.1, h4.2.2, h⟩
def rwk (r : Res) (Γ : Env) (Q : Src → List D → Env → Prop) : Prop := ∃ d ds, rd Γ r = some d ∧ itemsOf d = some ds ∧ Q (srcOf d r) ds.reverse Γ
theorem w_Rev {ma : DTE} {Q : Src → List D → Env → Prop} (h : ma Γ fun r Γ1 => rwk r Γ1 Q) : mRev ma Γ Q := h
theorem w_rvd {r : Res} {Q : Src → List D → Env → Prop} (h1 : rd Γ r = some d) (h2 : itemsOf d = some ds) (h : Q (srcOf d r) ds.reverse Γ) : rwk r Γ Q := ⟨_, _, h1, h2, h⟩
def zpk (r r2 : Res) (Γ : Env) (Q : Src → List D → Env → Prop) : Prop := ∃ ds es, dat r = some (.lst ds) ∧ dat r2 = some (.lst es) ∧ Q (.v2 (.lst ds) (.lst es)) (zipD ds es) Γ
theorem w_Zip {ma mb : DTE} {Q : Src → List D → Env → Prop} (h : ma Γ fun r Γ1 => mb Γ1 fun r2 Γ2 => zpk r r2 Γ2 Q) : mZip ma mb Γ Q := h
theorem w_zip {r r2 : Res} {es : List D} {Q : Src → List D → Env → Prop} (h1 : dat r = some (.lst ds)) (h2 : dat r2 = some (.lst es)) (h : Q (.v2 (.lst ds) (.lst es)) (zipD ds es) Γ) : zpk r r2 Γ Q := ⟨_, _, h1, h2, h⟩
end
end DL
/-! the data layer, part 35: passes of an outcome counted by pairs: plain mathematics -/
namespace DL
open PySem PySem.Spec PyProof.Rows L2
/-! ### slices, any places -/
end DL
/-! the data layer, part 36: one statement that only looks at an own list, which is changed later -/
namespace DL
open PySem PySem.Spec PyProof.Rows L2
end DL
/-! the data layer, part 37: comprehensions with two for -/
namespace DL
open PySem PySem.Spec PyProof.Rows L2
theorem wipe_idem (τ : L2.St) : ∀ vs : List Nat, L2.wipe (L2.wipe τ vs) vs = L2.wipe τ vs := by
  intro ws
  induction ws with
  | nil => rfl
  | cons w ws ih =>
    show (L2.wipe ((L2.wipe τ ws).set w none) ws).set w none = (L2.wipe τ ws).set w none
    by_cases hww : w ∈ ws
    · rw [wipe_set hww, ih]
    · have comm : ∀ {us : List Nat} {τ' : L2.St}, w ∉ us → L2.wipe (τ'.set w none) us = (L2.wipe τ' us).set w none := fun {us τ'} => by
        induction us with
        | nil => intro _; rfl
        | cons u us ih2 =>
          intro hn
          unfold L2.wipe
          rw [ih2 fun z => hn (List.mem_cons_of_mem _ z)]
          exact List.set_comm _ _ (fun z => hn (by simp [z]))
      rw [comm hww, List.set_set, ih]
def comp2M (src : Src) (mg : DTG) (mt : DTT) (mi1 : DTI) (mg1 : DTG) (mt1 : DTT) (me : DTE) (vs vs1 : List Nat) (Q : List D → Env → Prop) : List D → List D → Env → Prop
  | [], acc, Γ => srcD Γ src ∧ Q acc Γ
  | x :: xs, acc, Γ => srcD Γ src ∧ okOwn Γ vs = true ∧ mg x (wipeD Γ vs) fun Γ2 => mt Γ2 fun b Γ3 =>
      if b = true then mi1 Γ3 fun src1 items1 Γ4 => compM src1 mg1 mt1 me vs1 (fun acc' Γ5 => comp2M src mg mt mi1 mg1 mt1 me vs vs1 Q xs acc' (restD Γ Γ5 vs)) items1 acc Γ4 else comp2M src mg mt mi1 mg1 mt1 me vs vs1 Q xs acc (restD Γ Γ3 vs)
def mComp2 (mi : DTI) (mg : DTG) (mt : DTT) (mi1 : DTI) (mg1 : DTG) (mt1 : DTT) (me : DTE) (vs vs1 : List Nat) : DTE := fun Γ Q => mi Γ fun src items Γ1 => comp2M src mg mt mi1 mg1 mt1 me vs vs1 (fun acc Γ2 => Q (.fr (.lst acc)) Γ2) items [] Γ1
section
variable {C : Ctx} {Γ : Env} {O : List Addr} {σ : L2.St} {H : Hp} {p : Addr} {o o' : HO}
theorem RelO.swapU (R : RelO { C with U := (p, o) :: C.U } Γ (p :: O) σ H) (h0 : C.H0 p = none) (hU : ∀ q ∈ C.U, q.1 ≠ p) (ht : Tk (some o') := by trivial) : RelO { C with U := (p, o') :: C.U } Γ (p :: O) σ (upd H p o') := by
  have hm := (R.uu _ List.mem_cons_self).2.2
  have RC : RelO C Γ (p :: O) σ H := R.backU fun q hq => List.mem_cons_of_mem _ hq
  have Ru := RC.updFree (o := o') List.mem_cons_self h0 hm hU ht
  refine Ru.congrU fun q hq => ?_
  rcases List.mem_cons.mp hq with z | z
  · subst z; exact ⟨upd_same, List.mem_cons_self, hm⟩
  · exact Ru.uu q z
theorem SrcOk.congrU {U U' : List (Addr × HO)} {g : List Addr → Hp → Prop} {src : Src} (h : SrcOk { C with U := U } Γ O σ H g src) : SrcOk { C with U := U' } Γ O σ H g src := by
  cases src <;> exact h
/-- the turn's target: a value that is yielded -/
theorem ItD_yld {C : Ctx} {J : It} {n : Nat} {gg : List Addr → Hp → Prop} {items : List D} {Γi : Env} {Dd : Addr} {O : List Addr} {σ : L2.St} {Hc H' : Hp} {i : Nat} {x : V} {U : List (Addr × HO)} (itd : ItD C.K J n gg items) (Ri : RelO { C with U := U } Γi (Dd :: O) σ Hc) (gi : gg (Dd :: O) Hc) (hlt : i < n) (hil : i < items.length) (y : J.yld i Hc x H') :
    RelO { C with U := U } Γi (Dd :: O) σ H' ∧ Rep C.K (hide (Dd :: O) H') x items[i] ∧ Same (hide (Dd :: O) Hc) (hide (Dd :: O) H') := by
  obtain ⟨d, hd, hx⟩ := itd.yld i _ _ x H' Ri.al gi hlt y
  have hdi : d = items[i] := by
    rw [List.getElem?_eq_getElem hil] at hd
    exact (Option.some.inj hd).symm
  rw [← hdi]
  rcases hx with ⟨rfl, hx⟩ | ⟨p, pvs, pds, rfl, hp, rfl, hr, rfl⟩
  · exact ⟨Ri, hx, L2.Same.refl _⟩
  · exact ⟨Ri.alloc hp, .tup (by rw [hide_out (Ri.notin hp)]; exact upd_same) (hr.mono (hide_new hp)), hide_new hp⟩
end
section
variable {C : Ctx}
theorem sim_comp2 {wi wi1 : TI} {g g1 : TG} {tt tt1 : TT} {te : TE} {vs vs1 : List Nat} {mi mi1 : DTI} {mg mg1 : DTG} {mt mt1 : DTT} {me : DTE} (hi : SimI C wi mi) (hg : ∀ U, SimG { C with U := U } g mg) (hgo : OwnG g vs) (ht : ∀ U, SimT { C with U := U } tt mt) (hi1 : ∀ U, SimI { C with U := U } wi1 mi1) (hg1 : ∀ U, SimG { C with U := U } g1 mg1) (hgo1 : OwnG g1 vs1) (ht1 : ∀ U, SimT { C with U := U } tt1 mt1) (he : ∀ U, SimE { C with U := U } te me)
    (hgm : ∀ (v : V) (σ : L2.St) (H : Hp) (Q Q' : L2.St → Hp → Prop), (∀ σ H, Q σ H → Q' σ H) → g v σ H Q → g v σ H Q') (hgm1 : ∀ (v : V) (σ : L2.St) (H : Hp) (Q Q' : L2.St → Hp → Prop), (∀ σ H, Q σ H → Q' σ H) → g1 v σ H Q → g1 v σ H Q') : SimE C (tLc2 wi g tt wi1 g1 tt1 te vs vs1) (mComp2 mi mg mt mi1 mg1 mt1 me vs vs1) := fun Γ O σ H Qd Q R h k => by
  refine hi Γ O σ H _ _ R h fun src items Γ1 J H1 n gg R1 e1 itd sok q => ?_
  intro Dd hD
  have h0 : C.H0 Dd = none := R1.fresh0 hD
  have hDO : Dd ∉ O := R1.notin hD
  have hU : ∀ q ∈ C.U, q.1 ≠ Dd := fun q hq => ne_of_none (R1.uu q hq).1 hD
  have hM1 : ∀ i, ¬ MutAt Γ1 σ i Dd := fun i hm => hDO (R1.mutIn hm)
  let QQ : List D → Env → Prop := fun acc Γ2 => Qd (.fr (.lst acc)) Γ2
  let Wp : Nat → Nat → Hp → Prop := fun i m Hc => m = n - i ∧ i ≤ n ∧ ∃ (acc : List D) (vacc : List V) (Γi : Env), RelO { C with U := (Dd, .lst vacc) :: C.U } Γi (Dd :: O) σ Hc ∧ Same (hide O H1) (hide (Dd :: O) Hc) ∧ Reps C.K (hide (Dd :: O) Hc) vacc acc ∧
    comp2M src mg mt mi1 mg1 mt1 me vs vs1 QQ (items.drop i) acc Γi
  refine ⟨Wp, ⟨n, by simp, Nat.zero_le _, [], [], Γ1, ?_, hide_newO hD, .nil, q⟩, ?_⟩
  · refine (R1.allocO hD).congrU fun q hq => ?_
    rcases List.mem_cons.mp hq with z | z
    · subst z; exact ⟨upd_same, List.mem_cons_self, hM1⟩
    · exact (R1.allocO hD).uu q z
  rintro i m Hc ⟨rfl, hin, acc, vacc, Γi, Ri, ei, ri, qi⟩
  have RC : RelO C Γi (Dd :: O) σ Hc := Ri.backU fun q hq => List.mem_cons_of_mem _ hq
  have hDc : Hc Dd = some (.lst vacc) := (Ri.uu _ List.mem_cons_self).1
  have hDm : ∀ i, ¬ MutAt Γi σ i Dd := (Ri.uu _ List.mem_cons_self).2.2
  by_cases hlt : i < n
  · have hil : i < items.length := by rw [itd.len]; exact hlt
    have ed : items.drop i = items[i] :: items.drop (i + 1) := List.drop_eq_getElem_cons hil
    rw [ed] at qi
    obtain ⟨hs, hk, qi⟩ := qi
    have gi : gg (Dd :: O) Hc := sok.at ei RC hs
    refine .inr ⟨itd.go i _ _ gi hlt, fun H' => Wp (i + 1) (n - (i + 1)) H', fun H' w => ⟨n - (i + 1), by omega, w⟩, fun x H' y => ?_⟩
    obtain ⟨R', r', e'⟩ := ItD_yld itd Ri gi hlt hil y
    refine hgm _ _ _ _ _ (fun σ2 H2 q2 => ?_) (hgo _ _ _ _ (hg _ (wipeD Γi vs) (Dd :: O) (L2.wipe σ vs) H' x items[i] _ (fun σ2 H2 => ∃ Γ2, RelO { C with U := (Dd, .lst vacc) :: C.U } Γ2 (Dd :: O) σ2 H2 ∧ Same (hide (Dd :: O) H') (hide (Dd :: O) H2) ∧ mt Γ2 fun b Γ3 =>
        if b = true then mi1 Γ3 fun src1 items1 Γ4 => compM src1 mg1 mt1 me vs1 (fun acc' Γ5 => comp2M src mg mt mi1 mg1 mt1 me vs vs1 QQ (items.drop (i + 1)) acc' (restD Γi Γ5 vs)) items1 acc Γ4 else comp2M src mg mt mi1 mg1 mt1 me vs vs1 QQ (items.drop (i + 1)) acc (restD Γi Γ3 vs))
        (R'.wipe hk) r' qi fun Γ2 σ2 H2 R2 e2 q2 => ⟨Γ2, R2, e2, q2⟩))
    obtain ⟨hw, Γ2, R2, e2, q2⟩ := q2
    have hw' : L2.wipe σ2 vs = L2.wipe σ vs := hw.trans (wipe_idem σ vs)
    refine ⟨hw', ?_⟩
    refine ht _ Γ2 (Dd :: O) σ2 H2 _ _ R2 q2 fun b Γ3 H3 R3 e3 q3 => ?_
    have eAll3 := L2.Same.trans ei (L2.Same.trans e' (L2.Same.trans e2 e3))
    cases b with
    | true =>
      refine hi1 _ Γ3 (Dd :: O) σ2 H3 _ _ R3 q3 fun src1 items1 Γ4 J1 H4 n1 gg1 R4 e4 itd1 sok1 q4 => ?_
      have eB : Same (hide (Dd :: O) H') (hide (Dd :: O) H4) := L2.Same.trans e2 (L2.Same.trans e3 e4)
      let W1 : Nat → Nat → Hp → Prop := fun j m Hj => m = n1 - j ∧ j ≤ n1 ∧ ∃ (acc : List D) (vacc : List V) (Γj : Env), RelO { C with U := (Dd, .lst vacc) :: C.U } Γj (Dd :: O) σ2 Hj ∧ Same (hide (Dd :: O) H4) (hide (Dd :: O) Hj) ∧ Reps C.K (hide (Dd :: O) Hj) vacc acc ∧
        compM src1 mg1 mt1 me vs1 (fun acc' Γ5 => comp2M src mg mt mi1 mg1 mt1 me vs vs1 QQ (items.drop (i + 1)) acc' (restD Γi Γ5 vs)) (items1.drop j) acc Γj
      refine ⟨W1, ⟨n1, by simp, Nat.zero_le _, acc, vacc, Γ4, R4, L2.Same.refl _, ri.mono (L2.Same.trans e' eB), q4⟩, ?_⟩
      rintro j m Hj ⟨rfl, hjn, acj, vacj, Γj, Rj, ej, rj, qj⟩
      have sok1' : SrcOk { C with U := (Dd, .lst vacj) :: C.U } Γ4 (Dd :: O) σ2 H4 gg1 src1 := sok1.congrU
      by_cases hlj : j < n1
      · have hjl : j < items1.length := by rw [itd1.len]; exact hlj
        have ed1 : items1.drop j = items1[j] :: items1.drop (j + 1) := List.drop_eq_getElem_cons hjl
        rw [ed1] at qj
        obtain ⟨hsj, hkj, qj⟩ := qj
        have gj : gg1 (Dd :: O) Hj := sok1'.at ej Rj hsj
        refine .inr ⟨itd1.go j _ _ gj hlj, fun H' => W1 (j + 1) (n1 - (j + 1)) H', fun H' w => ⟨n1 - (j + 1), by omega, w⟩, fun z Hz y1 => ?_⟩
        obtain ⟨Rz, rz, ez⟩ := ItD_yld (C := C) itd1 Rj gj hlj hjl y1
        refine hgm1 _ _ _ _ _ (fun σ3 H5 q5 => ?_) (hgo1 _ _ _ _ (hg1 _ (wipeD Γj vs1) (Dd :: O) (L2.wipe σ2 vs1) Hz z items1[j] _ (fun σ3 H5 => ∃ Γ5, RelO { C with U := (Dd, .lst vacj) :: C.U } Γ5 (Dd :: O) σ3 H5 ∧ Same (hide (Dd :: O) Hz) (hide (Dd :: O) H5) ∧ mt1 Γ5 fun b Γ6 =>
            if b = true then me Γ6 fun r Γ7 => ∃ d, dat r = some d ∧ acj.length < 100000 ∧ compM src1 mg1 mt1 me vs1 (fun acc' Γ5 => comp2M src mg mt mi1 mg1 mt1 me vs vs1 QQ (items.drop (i + 1)) acc' (restD Γi Γ5 vs)) (items1.drop (j + 1)) (acj ++ [d]) (restD Γj Γ7 vs1) else compM src1 mg1 mt1 me vs1 (fun acc' Γ5 => comp2M src mg mt mi1 mg1 mt1 me vs vs1 QQ (items.drop (i + 1)) acc' (restD Γi Γ5 vs)) (items1.drop (j + 1)) acj (restD Γj Γ6 vs1))
            (Rz.wipe hkj) rz qj fun Γ5 σ3 H5 R5 e5 q5 => ⟨Γ5, R5, e5, q5⟩))
        obtain ⟨hw1, Γ5, R5, e5, q5⟩ := q5
        have hw1' : L2.wipe σ3 vs1 = L2.wipe σ2 vs1 := hw1.trans (wipe_idem σ2 vs1)
        refine ⟨hw1', ?_⟩
        refine ht1 _ Γ5 (Dd :: O) σ3 H5 _ _ R5 q5 fun b Γ6 H6 R6 e6 q6 => ?_
        have eAll6 := L2.Same.trans ej (L2.Same.trans ez (L2.Same.trans e5 e6))
        cases b with
        | true =>
          refine he _ Γ6 (Dd :: O) σ3 H6 _ _ R6 q6 fun r Γ7 w H7 R7 e7 q7 => ?_
          obtain ⟨dy, hdy, hacc, q7⟩ := q7
          have ry : Rep C.K (hide (Dd :: O) H7) w dy := R7.pend.dat hdy
          have hD7 : H7 Dd = some (.lst vacj) := (R7.rel.uu _ List.mem_cons_self).1
          have e8 : hide (Dd :: O) (upd H7 Dd (.lst (vacj ++ [w]))) = hide (Dd :: O) H7 := hide_mut List.mem_cons_self
          have racc : Reps C.K (hide (Dd :: O) H7) vacj acj := rj.mono (L2.Same.trans ez (L2.Same.trans e5 (L2.Same.trans e6 e7.1)))
          refine ⟨vacj, hD7, by rw [racc.length]; exact Nat.lt_of_lt_of_le hacc (by decide), rfl, hlj, acj ++ [dy], vacj ++ [w], restD Γj Γ7 vs1, ?_, ?_, ?_, q7⟩
          · exact (Rz.rest (L2.Same.trans e5 (L2.Same.trans e6 e7.1)) R7.rel hw1' hkj).swapU h0 hU
          · rw [e8]; exact L2.Same.trans eAll6 e7.1
          · rw [e8]; exact racc.append (.cons ry .nil)
        | false =>
          exact ⟨rfl, hlj, acj, vacj, restD Γj Γ6 vs1, Rz.rest (L2.Same.trans e5 e6) R6 hw1' hkj, eAll6, rj.mono (L2.Same.trans ez (L2.Same.trans e5 e6)), q6⟩
      · have e : j = n1 := by omega
        subst e
        rw [List.drop_of_length_le (l := items1) (by rw [itd1.len]; exact Nat.le_refl _)] at qj
        obtain ⟨hsj, qj⟩ := qj
        refine .inl ⟨itd1.stop _ _ (sok1'.at ej Rj hsj), rfl, hlt, acj, vacj, restD Γi Γj vs, ?_, L2.Same.trans ei (L2.Same.trans e' (L2.Same.trans eB ej)), rj, qj⟩
        have R'' : RelO { C with U := (Dd, .lst vacj) :: C.U } Γi (Dd :: O) σ (upd H' Dd (.lst vacj)) := R'.swapU h0 hU
        have e9 : hide (Dd :: O) (upd H' Dd (.lst vacj)) = hide (Dd :: O) H' := hide_mut List.mem_cons_self
        exact R''.rest (by rw [e9]; exact L2.Same.trans eB ej) Rj hw' hk
    | false =>
      exact ⟨rfl, hlt, acc, vacc, restD Γi Γ3 vs, R'.rest (L2.Same.trans e2 e3) R3 hw' hk, eAll3, ri.mono (L2.Same.trans e' (L2.Same.trans e2 e3)), q3⟩
  · have e : i = n := by omega
    subst e
    rw [List.drop_of_length_le (by rw [itd.len]; exact Nat.le_refl _)] at qi
    obtain ⟨hs, qi⟩ := qi
    refine .inl ⟨itd.stop _ _ (sok.at ei RC hs), ?_⟩
    obtain ⟨RO, eO⟩ := RC.letgo (O' := O) h0 hDm hU fun a => ⟨fun ha => ⟨List.mem_cons_of_mem _ ha, fun z => hDO (z ▸ ha)⟩, fun ha => (List.mem_cons.mp ha.1).resolve_left ha.2⟩
    exact k (.fr (.lst acc)) Γi (.ref Dd) Hc ⟨RO, Dd, .lst vacc, rfl, hDc, hDO, h0, .lst ri, RC⟩ (.fr (L2.Same.trans e1 ei)) qi
end
section
variable {X : Cx} {C : Ctx} {elt tg iter tg1 iter1 : Expr} {pos : Pos} {wi wi1 : TI} {g g1 : TG} {tt tt1 : TT} {te : TE} {mi mi1 : DTI} {mg mg1 : DTG} {mt mt1 : DTT} {me : DTE} {ifs ifs1 : List Expr} {scope : Scope} {own : List (Str × Nat)} {vs1 : List Nat}
/-- the parts of a comprehension with two for -/
structure DL2 (X : Cx) (C : Ctx) (elt tg iter : Expr) (ifs : List Expr) (tg1 iter1 : Expr) (ifs1 : List Expr) (scope : Scope) (own : List (Str × Nat)) (vs1 : List Nat) (wi : TI) (g : TG) (tt : TT) (wi1 : TI) (g1 : TG) (tt1 : TT) (te : TE) (mi : DTI) (mg : DTG) (mt : DTT) (mi1 : DTI) (mg1 : DTG) (mt1 : DTT) (me : DTE) : Prop where
  calm : X.calm = true
  nd : X.N.Nodup
  hi : DI X C tg iter wi mi
  ok : BlkOk X.N X.env.scope scope own
  hv : ∀ i ∈ vs1, i ∈ own.map (·.2)
  hg : ∀ (U : List (Addr × HO)) (s : Shared) (H : Hp) (A : Addr) (cl : List (Str × Addr)) (fp : List Addr), DG (X.blk s H scope (compEnvC scope cl A X.env) fp) { C with U := U } tg g mg
  hgo : OwnG g (own.map (·.2))
  hgm : ∀ (v : V) (σ : L2.St) (H : Hp) (Q Q' : L2.St → Hp → Prop), (∀ σ H, Q σ H → Q' σ H) → g v σ H Q → g v σ H Q'
  ht : ∀ (U : List (Addr × HO)) (s : Shared) (H : Hp) (A : Addr) (cl : List (Str × Addr)) (fp : List Addr), DF (X.blk s H scope (compEnvC scope cl A X.env) fp) { C with U := U } ifs tt mt
  hi1 : ∀ (U : List (Addr × HO)) (s : Shared) (H : Hp) (A : Addr) (cl : List (Str × Addr)) (fp : List Addr), DI (X.blk s H scope (compEnvC scope cl A X.env) fp) { C with U := U } tg1 iter1 wi1 mi1
  hg1 : ∀ (U : List (Addr × HO)) (s : Shared) (H : Hp) (A : Addr) (cl : List (Str × Addr)) (fp : List Addr), DG (X.blk s H scope (compEnvC scope cl A X.env) fp) { C with U := U } tg1 g1 mg1
  hgo1 : OwnG g1 vs1
  hgm1 : ∀ (v : V) (σ : L2.St) (H : Hp) (Q Q' : L2.St → Hp → Prop), (∀ σ H, Q σ H → Q' σ H) → g1 v σ H Q → g1 v σ H Q'
  ht1 : ∀ (U : List (Addr × HO)) (s : Shared) (H : Hp) (A : Addr) (cl : List (Str × Addr)) (fp : List Addr), DF (X.blk s H scope (compEnvC scope cl A X.env) fp) { C with U := U } ifs1 tt1 mt1
  he : ∀ (U : List (Addr × HO)) (s : Shared) (H : Hp) (A : Addr) (cl : List (Str × Addr)) (fp : List Addr), DE (X.blk s H scope (compEnvC scope cl A X.env) fp) { C with U := U } elt te me
theorem DL2.sim (h : DL2 X C elt tg iter ifs tg1 iter1 ifs1 scope own vs1 wi g tt wi1 g1 tt1 te mi mg mt mi1 mg1 mt1 me) (s : Shared) : SimE C (tLc2 wi g tt wi1 g1 tt1 te (own.map (·.2)) vs1) (mComp2 mi mg mt mi1 mg1 mt1 me (own.map (·.2)) vs1) :=
  sim_comp2 h.hi.sim (fun U => (h.hg U s (fun _ => none) 0 [] []).sim) h.hgo (fun U => (h.ht U s (fun _ => none) 0 [] []).sim) (fun U => (h.hi1 U s (fun _ => none) 0 [] []).sim) (fun U => (h.hg1 U s (fun _ => none) 0 [] []).sim) h.hgo1 (fun U => (h.ht1 U s (fun _ => none) 0 [] []).sim) (fun U => (h.he U s (fun _ => none) 0 [] []).sim) h.hgm h.hgm1
end
section
variable {src : Src} {mi mi1 : DTI} {mg mg1 : DTG} {mt mt1 : DTT} {me : DTE} {vs vs1 : List Nat}
theorem w_Comp2 {Γ : Env} {Q : QE} (h : mi Γ fun src items Γ1 => comp2M src mg mt mi1 mg1 mt1 me vs vs1 (fun acc Γ2 => Q (.fr (.lst acc)) Γ2) items [] Γ1) : mComp2 mi mg mt mi1 mg1 mt1 me vs vs1 Γ Q := h
end
end DL
/-! the data layer, part 38: calls with keywords -/
namespace DL
open PySem PySem.Spec PyProof.Rows L2
end DL
/-! the data layer, part 39: exceptions -/
namespace DL
open PySem PySem.Spec PyProof.Rows L2
/-- what must hold where an exception arises: its class by name, its fields, the slots -/
abbrev Dwx := Str → List (Str × D) → Env → Prop
abbrev noW : Dwx := fun _ _ _ => False
abbrev emH : Hp := fun _ => none
/-- the dict of an exception in the air, amid a def's body -/
def XdAt (C : Ctx) (H : Hp) (d : Option Addr) (fds : List (Str × D)) : Prop := (d = none ∧ fds = []) ∨ ∃ dx fvs, d = some dx ∧ C.H0 dx = none ∧ H dx = some (.xd fvs) ∧ fvs.map (·.1) = fds.map (·.1) ∧ Reps C.K emH (fvs.map (·.2)) (fds.map (·.2))
structure WLink (C : Ctx) (W : WX) (Wd : Dwx) : Prop where
  go : ∀ n c d fds Γ O σ H, RelO C Γ O σ H → XNm C.K n c → XdAt C H d fds → Wd n fds Γ → W (.ref c) d σ H
theorem WLink.no {C : Ctx} {W : WX} : WLink C W noW := ⟨fun _ _ _ _ _ _ _ _ _ _ _ h => h.elim⟩
/-! ### calls that may raise -/
def mCallX (Wd : Dwx) (ms : List Md) (sd : DSp) (ma : DTA) : DTE := fun Γ Q => ma Γ fun rs Γ1 => ∃ ds, argsD Γ1 ms rs = some ds ∧ apartB ms rs = true ∧
  sd ds (fun b d ds' => ∃ Γ2, putsD (mPls ms rs) ds' Γ1 = some Γ2 ∧ Q (if b = true then frOf d else .val d) Γ2) (fun n fds ds' => ∃ Γ2, putsD (mPls ms rs) ds' Γ1 = some Γ2 ∧ Wd n fds Γ2)
/-! ### a def that may raise -/
def wEnd (ms : List Md) (Ed : EdT) : Dwx := fun n fds Γ => Ed n fds (iosD ms Γ)
end DL
/-! the data layer, part 40: raise, try .. except -/
namespace DL
open PySem PySem.Spec PyProof.Rows L2
/-! ### own exception classes that keep their arguments as fields -/
abbrev flds (fs : List Str) {α : Type} (vs : List α) : List (Str × α) := (fs.zip vs).reverse
/-- raise C(..) -/
def mRaise (Wd : Dwx) (n : Str) (fs : List Str) (ma : DTA) : DTS := fun D Γ => ma Γ fun rs Γ1 => ∃ ds, dats rs = some ds ∧ ds.length = fs.length ∧ fs.length ≤ 100 ∧ ds.all scal = true ∧ Wd n (flds fs ds) Γ1
/-! ### try .. except C as e -/
/-- which classes an except clause takes -/
def XEx (K : Fg) (C0 : Addr) (tab : List (Str × Bool)) : Prop := ∀ n b, tab.lookup n = some b → ∀ c, XNm K n c → PySem.W.exmOne K (.ref c) (.ref C0) = some b
def mTryAs (i : Nat) (tab : List (Str × Bool)) (mb : Dwx → DTS) (ms : Str → List (Str × D) → Addr → DTS) (Wd : Dwx) : DTS := fun D Γ => mb (fun n fds Γ1 => ∃ b, tab.lookup n = some b ∧
  (b = true → freeB Γ1 i = true ∧ ∀ a, ms n fds a ⟨fun Γ' => freeB Γ' i = true ∧ D.nx (Γ'.set i .no), D.rt, fun Γ' => freeB Γ' i = true ∧ D.bk (Γ'.set i .no), fun Γ' => freeB Γ' i = true ∧ D.ct (Γ'.set i .no)⟩ (Γ1.set i (.sh (.cls a)))) ∧ (b = false → Wd n fds Γ1)) D Γ
def mTry (tab : List (Str × Bool)) (mb : Dwx → DTS) (ms : Str → List (Str × D) → Addr → DTS) (Wd : Dwx) : DTS := fun D Γ => mb (fun n fds Γ1 => ∃ b, tab.lookup n = some b ∧ (b = true → ∀ a, ms n fds a D Γ1) ∧ (b = false → Wd n fds Γ1)) D Γ
section
variable {K : Fg} {H H' : Hp}
/-- the same but for dicts of exceptions -/
def SameX (H H' : Hp) : Prop := ∀ b o, H b = some o → (∀ fv, o ≠ .xd fv) → H' b = some o
theorem SameX.seq (e : SameX H H') {a : Addr} {xs : List V} (h : SqL K H a xs) : SqL K H' a xs := by
  rcases h with (h | ⟨o, h⟩) | h
  · exact .inl (.inl (e _ _ h fun _ z => by cases z))
  · exact .inl (.inr ⟨o, e _ _ h fun _ z => by cases z⟩)
  · exact .inr h
end
/-! ### in the suite -/
/-- what the classes must be, so that their instances are asked and read -/
def XIs (K : Fg) (T : Value) (tab : List (Str × Bool)) : Prop := ∀ n b, tab.lookup n = some b → ∀ c, XNm K n c → ExcC K c ∧ PySem.W.kitOne K (.ref c) T = some b
def XFd (K : Fg) (f : Str) (ns : List Str) : Prop := ∀ n, n ∈ ns → ∀ c, XNm K n c → XfC K c ∧ PySem.W.findIn K (.ref c) f = some none
def mXis (n : Str) (a : Addr) (tab : List (Str × Bool)) (mo : DTE) : DTE := fun Γ Q => mo Γ fun r Γ1 => r = .val (.cls a) ∧ ∃ b, tab.lookup n = some b ∧ Q (.val (.bl b)) Γ1
def mXf (n : Str) (fds : List (Str × D)) (a : Addr) (f : Str) (ns : List Str) (mo : DTE) : DTE := fun Γ Q => mo Γ fun r Γ1 => r = .val (.cls a) ∧ n ∈ ns ∧ ∃ d, fds.lookup f = some d ∧ Q (.val d) Γ1
end DL
/-! the data layer, part 41: exceptions: tables of classes, defaults, steps -/
namespace DL
open PySem PySem.Spec PyProof.Rows L2
/-! ### tables -/
section
variable {K : Fg} {N f : Str} {C C0 : Addr} {T : Value} {b : Bool} {tab : List (Str × Bool)} {ns : List Str}
theorem XNm.inj {c c' : Addr} (h : XNm K N c) (h' : XNm K N c') : c = c' := by
  have e : some (some (Value.ref c)) = some (some (Value.ref c')) := h.symm.trans h'
  exact Value.ref.inj (Option.some.inj (Option.some.inj e))
theorem XEx.nil : XEx K C0 [] := fun _ _ h => by cases h
theorem XEx.cons (hN : XNm K N C) (h1 : PySem.W.exmOne K (.ref C) (.ref C0) = some b) (t : XEx K C0 tab) : XEx K C0 ((N, b) :: tab) := fun n b' h c hc => by
  rw [List.lookup_cons] at h
  cases e : n == N with
  | true =>
    rw [e] at h
    have e : n = N := eq_of_beq e
    subst e
    cases h
    rw [hc.inj hN]; exact h1
  | false => rw [e] at h; exact t n b' h c hc
theorem XIs.nil : XIs K T [] := fun _ _ h => by cases h
theorem XIs.cons (hN : XNm K N C) (hE : ExcC K C) (h1 : PySem.W.kitOne K (.ref C) T = some b) (t : XIs K T tab) : XIs K T ((N, b) :: tab) := fun n b' h c hc => by
  rw [List.lookup_cons] at h
  cases e : n == N with
  | true =>
    rw [e] at h
    have e : n = N := eq_of_beq e
    subst e
    cases h
    rw [hc.inj hN]; exact ⟨hE, h1⟩
  | false => rw [e] at h; exact t n b' h c hc
theorem XFd.nil : XFd K f [] := fun _ h => by cases h
theorem XFd.cons (hN : XNm K N C) (hE : XfC K C) (h1 : PySem.W.findIn K (.ref C) f = some none) (t : XFd K f ns) : XFd K f (N :: ns) := fun n h c hc => by
  rcases List.mem_cons.mp h with e | h
  · subst e
    rw [hc.inj hN]; exact ⟨hE, h1⟩
  · exact t n h c hc
end
/-! ### arguments that are left to their defaults -/
def mSnoc (ma : DTA) (ds : List D) : DTA := fun Γ Q => ma Γ fun rs Γ1 => Q (rs ++ ds.map Res.val) Γ1
theorem Pends.append {K : Fg} {O : List Addr} {σ : L2.St} {H : Hp} : ∀ {vs ws : List V} {rs qs : List Res}, Pends K O σ H vs rs → Pends K O σ H ws qs → Pends K O σ H (vs ++ ws) (rs ++ qs)
  | _, _, _, _, .nil, s => s
  | _, _, _, _, .cons h r, s => .cons h (Pends.append r s)
/-! ### try .. except C: without a name -/
/-! ### steps -/
section
variable {Γ Γ' Γ1 : Env} {Q : QE} {i : Nat} {d : D} {ma mo : DTE} {mr : DTA} {r : Res} {rs : List Res} {ds : List D} {b : Bool} {Wd : Dwx} {n f : Str} {fs ns : List Str} {fds : List (Str × D)} {nx bk ct : Env → Prop} {rt : Res → Env → Prop} {tab : List (Str × Bool)} {mb : Dwx → DTS} {mz : Str → List (Str × D) → Addr → DTS} {a : Addr}
def xtk (is : List Nat) (Γ : Env) (Wd : Dwx) : EdT := fun n fds ds' => ∃ Γ2, putsD is ds' Γ = some Γ2 ∧ Wd n fds Γ2
def clkX (Wd : Dwx) (ms : List Md) (sd : DSp) (Γ : Env) (rs : List Res) (Q : QE) : Prop := ∃ ds, argsD Γ ms rs = some ds ∧ apartB ms rs = true ∧ sd ds (fun b d ds' => ∃ Γ2, putsD (mPls ms rs) ds' Γ = some Γ2 ∧ Q (if b = true then frOf d else .val d) Γ2) (fun n fds ds' => ∃ Γ2, putsD (mPls ms rs) ds' Γ = some Γ2 ∧ Wd n fds Γ2)
theorem e_CallX {ms : List Md} {sd : DSp} (h : mr Γ fun rs Γ1 => clkX Wd ms sd Γ1 rs Q) : mCallX Wd ms sd mr Γ Q := h
theorem e_callX {ms : List Md} {sd : DSp} {is : List Nat} (h1 : argsD Γ ms rs = some ds) (h2 : apartB ms rs = true) (h3 : mPls ms rs = is) (h : sd ds (ptk is Γ Q) (xtk is Γ Wd)) : clkX Wd ms sd Γ rs Q := ⟨_, h1, h2, by subst h3; exact h⟩
theorem e_xt {is : List Nat} (h1 : putsD is ds Γ = some Γ1) (h2 : Γ1 = Γ') (h : Wd n fds Γ') : xtk is Γ Wd n fds ds := ⟨_, h1, by rw [h2]; exact h⟩
theorem e_Snoc {Q : List Res → Env → Prop} (h : mr Γ fun rs Γ1 => Q (rs ++ ds.map Res.val) Γ1) : mSnoc mr ds Γ Q := h
def rsk (Wd : Dwx) (n : Str) (fs : List Str) (Γ : Env) (rs : List Res) : Prop := ∃ ds, dats rs = some ds ∧ ds.length = fs.length ∧ fs.length ≤ 100 ∧ ds.all scal = true ∧ Wd n (flds fs ds) Γ
theorem s_Raise (h : mr Γ fun rs Γ1 => rsk Wd n fs Γ1 rs) : mRaise Wd n fs mr (.mk nx rt bk ct) Γ := h
theorem s_raise (h1 : dats rs = some ds) (h2 : ds.length = fs.length) (h3 : fs.length ≤ 100) (h4 : ds.all scal = true) (h5 : flds fs ds = fds) (h : Wd n fds Γ) : rsk Wd n fs Γ rs := ⟨_, h1, h2, h3, h4, by rw [h5]; exact h⟩
theorem d_x {ms : List Md} {Ed : EdT} (h1 : iosD ms Γ = ds) (h : Ed n fds ds) : wEnd ms Ed n fds Γ := by subst h1; exact h
def unk (i : Nat) (nx : Env → Prop) : Env → Prop := fun Γ => freeB Γ i = true ∧ nx (Γ.set i .no)
theorem u_nk (h1 : freeB Γ i = true) (h2 : Γ.set i .no = Γ') (h : nx Γ') : unk i nx Γ := ⟨h1, by rw [h2]; exact h⟩
def xck (i : Nat) (tab : List (Str × Bool)) (mz : Str → List (Str × D) → Addr → DTS) (Wd : Dwx) (nx : Env → Prop) (rt : Res → Env → Prop) (bk ct : Env → Prop) : Dwx := fun n fds Γ1 => ∃ b, tab.lookup n = some b ∧
  (b = true → freeB Γ1 i = true ∧ ∀ a, mz n fds a (.mk (unk i nx) rt (unk i bk) (unk i ct)) (Γ1.set i (.sh (.cls a)))) ∧ (b = false → Wd n fds Γ1)
theorem s_TryAs (h : mb (xck i tab mz Wd nx rt bk ct) (.mk nx rt bk ct) Γ) : mTryAs i tab mb mz Wd (.mk nx rt bk ct) Γ := h
theorem x_T (h1 : tab.lookup n = some true) (h2 : freeB Γ i = true) (h : ∀ a, ∀ Γ', Γ.set i (.sh (.cls a)) = Γ' → mz n fds a (.mk (unk i nx) rt (unk i bk) (unk i ct)) Γ') : xck i tab mz Wd nx rt bk ct n fds Γ := ⟨true, h1, fun _ => ⟨h2, fun a => h a _ rfl⟩, fun z => by cases z⟩
theorem x_F (h1 : tab.lookup n = some false) (h : Wd n fds Γ) : xck i tab mz Wd nx rt bk ct n fds Γ := ⟨false, h1, (fun z => by cases z), fun _ => h⟩
def yck (tab : List (Str × Bool)) (mz : Str → List (Str × D) → Addr → DTS) (Wd : Dwx) (nx : Env → Prop) (rt : Res → Env → Prop) (bk ct : Env → Prop) : Dwx := fun n fds Γ1 => ∃ b, tab.lookup n = some b ∧ (b = true → ∀ a, mz n fds a (.mk nx rt bk ct) Γ1) ∧ (b = false → Wd n fds Γ1)
theorem s_Try (h : mb (yck tab mz Wd nx rt bk ct) (.mk nx rt bk ct) Γ) : mTry tab mb mz Wd (.mk nx rt bk ct) Γ := h
theorem y_T (h1 : tab.lookup n = some true) (h : ∀ a, mz n fds a (.mk nx rt bk ct) Γ) : yck tab mz Wd nx rt bk ct n fds Γ := ⟨true, h1, fun _ => h, fun z => by cases z⟩
theorem y_F (h1 : tab.lookup n = some false) (h : Wd n fds Γ) : yck tab mz Wd nx rt bk ct n fds Γ := ⟨false, h1, (fun z => by cases z), fun _ => h⟩
def xik (n : Str) (a : Addr) (tab : List (Str × Bool)) (r : Res) (Γ1 : Env) (Q : QE) : Prop := r = .val (.cls a) ∧ ∃ b, tab.lookup n = some b ∧ Q (.val (.bl b)) Γ1
theorem e_Xis (h : mo Γ fun r Γ1 => xik n a tab r Γ1 Q) : mXis n a tab mo Γ Q := h
theorem e_xis (h1 : tab.lookup n = some b) (h : Q (.val (.bl b)) Γ) : xik n a tab (.val (.cls a)) Γ Q := ⟨rfl, _, h1, h⟩
def xfk (n : Str) (fds : List (Str × D)) (a : Addr) (f : Str) (ns : List Str) (r : Res) (Γ1 : Env) (Q : QE) : Prop := r = .val (.cls a) ∧ n ∈ ns ∧ ∃ d, fds.lookup f = some d ∧ Q (.val d) Γ1
theorem e_Xf (h : mo Γ fun r Γ1 => xfk n fds a f ns r Γ1 Q) : mXf n fds a f ns mo Γ Q := h
theorem e_xf (h1 : n ∈ ns) (h2 : fds.lookup f = some d) (h : Q (.val d) Γ) : xfk n fds a f ns (.val (.cls a)) Γ Q := ⟨rfl, h1, _, h2, h⟩
end
end DL
/-! the data layer, part 42: a for over a generator: the generator's frame, woken -/
namespace DL
open PySem PySem.Spec PyProof.Rows L2
/-! ### a heap cut short -/
def low (H : Hp) (L : Nat) : Hp := fun b => if b < L then H b else none
/-! ### the generator's frame -/
/-! ### a name is stored, the generators stay -/
end DL
/-! the data layer, part 43: a for in a generator's body -/
namespace DL
open PySem PySem.Spec PyProof.Rows L2
end DL
/-! the data layer, part 44: a generator's for, yielding a name at each turn, woken by a for -/
namespace DL
open PySem PySem.Spec PyProof.Rows L2 GenW
/-- a generator over a list and who drives it (X: the driver; pc: its pins; L: the generator's frame; a: its object; jn: the driver's name for what was yielded, jl: its loop's name) -/
structure GD where
  X : Cx
  pc : List (Addr × Obj)
  N : List Str
  qual : Str
  scope : Scope
  f : Addr
  cd : Value
  L : Nat
  a : Addr
  go : Obj
  g : Nat
  tg : Expr
  S1 : Stmt
  nm : Str
  np : Pos
  yp : Pos
  yq : Pos
  al : Addr
  xs : List V
  H1 : Hp
  σ1 : L2.St
  jn : Nat
  jl : Nat
  dat : Nat → D
  ig : Nat
  inw : Nat
  O : List Addr
def GD.env (G : GD) : PySem.Env := envOfC G.qual G.scope G.L G.f G.cd
def GD.body (G : GD) : List Stmt := [G.S1, .Expr (.Yield (some (.Name G.nm G.np)) G.yp) G.yq]
def GD.agree (G : GD) (σ : L2.St) : Prop := ∀ i, i ≠ G.jn → i ≠ G.jl → σ[i]? = G.σ1[i]?
/-- the end -/
def GD.F (G : GD) : Nat → Shared → Shared → Prop := fun _ _ s => ∃ (σ : L2.St) (H : Hp) (x : V), Inv G.X G.pc σ H s ∧ G.agree σ ∧ (∀ b o, G.H1 b = some o → H b = some o) ∧ σ[G.jn]? = some (some x) ∧ Rep G.X.K (hide G.O H) x (G.dat G.xs.length)
end DL
/-! the data layer, part 45: the generator's loop -/
namespace DL
open PySem PySem.Spec PyProof.Rows L2 GenW
end DL
/-! the data layer, part 46: a generator is made and first woken -/
namespace DL
open PySem PySem.Spec PyProof.Rows L2 GenW
end DL
/-! the data layer, part 47: for name in generator(a, b): other = name -/
namespace DL
open PySem PySem.Spec PyProof.Rows L2 GenW
theorem Inv.gens {X : Cx} {pins : List (Addr × Obj)} {σ : L2.St} {H : Hp} {s : Shared} {g : Nat} {gs : GenState} (I : Inv X pins σ H s) (hb : gs.bare = true) : Inv X pins σ H (s.setGen g gs) :=
  ⟨I.ok, I.os, allBare_setGen I.bare hb, I.base, I.loc, I.cell, I.free, I.freeC, I.pin, I.hok, I.len⟩
end DL
/-! the data layer, part 48: a for over a generator, over data -/
namespace DL
open PySem PySem.Spec PyProof.Rows L2 GenW
end DL
/-! the data layer, part 49: sum(range(..)) -/
namespace DL
open PySem PySem.Spec PyProof.Rows L2
section
variable {X : Cx} {C : Ctx} {e : Expr} {te : L2.St → Hp → (Int → Int → Hp → Prop) → Prop} {mg : Env → (Int → Int → Env → Prop) → Prop}
def rgSum (a b : Int) : Int := ((List.range (b - a).toNat).map fun i => a + ((i : Nat) : Int)).sum
def mSumRg (mg : Env → (Int → Int → Env → Prop) → Prop) : DTE := fun Γ Q => mg Γ fun a b Γ1 => RgOk a b ∧ Q (.val (.int (rgSum a b))) Γ1
def srgk (a b : Int) (Γ1 : Env) (Q : QE) : Prop := RgOk a b ∧ Q (.val (.int (rgSum a b))) Γ1
theorem e_SRg {Γ : Env} {Q : QE} (h : mg Γ fun a b Γ1 => srgk a b Γ1 Q) : mSumRg mg Γ Q := h
theorem e_srg {Γ : Env} {Q : QE} {a b : Int} (h1 : RgOk a b) (h : Q (.val (.int (rgSum a b))) Γ) : srgk a b Γ Q := ⟨h1, h⟩
end
end DL
/-! the data layer, part 50: the empty dict -/
namespace DL
open PySem PySem.Spec PyProof.Rows L2
def mDict0 : DTE := fun Γ Q => Q (.fr (.dic [])) Γ
theorem de_dict0 {X : Cx} {C : Ctx} {pos : Pos} : DE X C (.Dict [] [] pos) tDNewK mDict0 := ⟨pe_dnewK, fun Γ O σ H Qd Q R h k => fun p hp => (outs_of R (L2.Same.refl _) k).new p _ _ hp (.dic .nil) h⟩
theorem e_Dict0 {Γ : Env} {Q : QE} (h : Q (.fr (.dic [])) Γ) : mDict0 Γ Q := h
theorem i_repr0 {Q : Res → Prop} (h : Q (.val (.str (toPy (.dic [])).shown))) : reprD [.dic []] Q := ⟨.inl rfl, h⟩
end DL
/-! the data layer, part 51: loops and comprehensions over a written list, one turn at a time -/
namespace DL
open PySem L2
/-! a, b, .. = a list -/
def mgUnl (n : Nat) (ms : DTGs) : DTG := fun d Γ Q => ∃ ds, d = .lst ds ∧ ds.length = n ∧ ms ds Γ Q
theorem g_unl {n : Nat} {ms : DTGs} {ds : List D} {Γ : Env} {nx : Env → Prop} (h1 : ds.length = n) (h : ms ds Γ nx) : mgUnl n ms (.lst ds) Γ nx := ⟨_, rfl, h1, h⟩
end DL
/-! the data layer, part 52: + by the class's own __add__ -/
namespace DL
open PySem PySem.Spec PyProof.Rows L2
/-- the two sides -/
def mPairO (C : Addr) (ma mb : DTE) : DTA := fun Γ Q => ma Γ fun r Γ1 => mb Γ1 fun r2 Γ2 => (∃ ns ds ns' ds', dat r = some (.obj C ns ds) ∧ dat r2 = some (.obj C ns' ds')) ∧ Q [r, r2] Γ2
def pok (C : Addr) (r r2 : Res) (Γ : Env) (Q : List Res → Env → Prop) : Prop := (∃ ns ds ns' ds', dat r = some (.obj C ns ds) ∧ dat r2 = some (.obj C ns' ds')) ∧ Q [r, r2] Γ
theorem e_PairO {C : Addr} {ma mb : DTE} {Γ : Env} {Q : List Res → Env → Prop} (h : ma Γ fun r Γ1 => mb Γ1 fun r2 Γ2 => pok C r r2 Γ2 Q) : mPairO C ma mb Γ Q := h
theorem e_pairO {C : Addr} {r r2 : Res} {Γ : Env} {Q : List Res → Env → Prop} {ns ns' : List Str} {ds ds' : List D} (h1 : dat r = some (.obj C ns ds)) (h2 : dat r2 = some (.obj C ns' ds')) (h : Q [r, r2] Γ) : pok C r r2 Γ Q := ⟨⟨_, _, _, _, h1, h2⟩, h⟩
theorem rel_look {env : PySem.Env} : ∀ {names : List (Str × NameKind)} {x : Str}, names.lookup x = some .cell ∨ names.lookup x = some .free →
    (names.map fun (n, k) => if (k == NameKind.free && env.scope.kind == .function && env.kindOf n == some .cell) then (n, NameKind.cell) else (n, k)).lookup x = some .cell ∨ (names.map fun (n, k) => if (k == NameKind.free && env.scope.kind == .function && env.kindOf n == some .cell) then (n, NameKind.cell) else (n, k)).lookup x = some .free
  | [], _, h => by simp at h
  | (n, k) :: r, x, h => by
    have ih := @rel_look env r x
    show List.lookup x ((if (k == NameKind.free && env.scope.kind == .function && env.kindOf n == some .cell) = true then (n, NameKind.cell) else (n, k)) :: _) = _ ∨ List.lookup x ((if (k == NameKind.free && env.scope.kind == .function && env.kindOf n == some .cell) = true then (n, NameKind.cell) else (n, k)) :: _) = _
    cases hx : x == n with
    | true =>
      simp only [List.lookup_cons, hx] at h
      by_cases hc : (k == NameKind.free && env.scope.kind == .function && env.kindOf n == some .cell) = true
      · rw [if_pos hc]; left; simp [List.lookup_cons, hx]
      · rw [if_neg hc]
        rcases h with h | h
        · cases h; left; simp [List.lookup_cons, hx]
        · cases h; right; simp [List.lookup_cons, hx]
    | false =>
      simp only [List.lookup_cons, hx] at h
      by_cases hc : (k == NameKind.free && env.scope.kind == .function && env.kindOf n == some .cell) = true
      · rw [if_pos hc]; simp only [List.lookup_cons, hx]; exact ih h
      · rw [if_neg hc]; simp only [List.lookup_cons, hx]; exact ih h
/-- a comprehension within a comprehension -/
theorem blkOk_in {X : Cx} {s : Shared} {H : Hp} {scope1 scope : Scope} {cl : List (Str × Addr)} {A : Addr} {fp : List Addr} {own : List (Str × Nat)} {N : List Str} (h : blkC N scope1 scope own = true) (hN : X.N = N := by rfl) : BlkOk (X.blk s H scope1 (compEnvC scope1 cl A X.env) fp).N (X.blk s H scope1 (compEnvC scope1 cl A X.env) fp).env.scope scope own := by
  subst hN
  have b := blkOk_by h
  exact ⟨b.kind, b.uniq, b.ix, fun y hy e => rel_look (b.free y hy e), b.own⟩
end DL
/-! the data layer, part 53: joins after a branch; small tools -/
namespace DL
open PySem PySem.Spec PyProof.Rows L2
theorem rep_ints (k : Nat) (gs : List Int) : (List.replicate k (gs.map D.int)).flatten = ((List.replicate k gs).flatten).map D.int := by
  rw [List.map_flatten, List.map_replicate]
theorem i_mulI {k : Nat} {gs : List Int} {Q : Res → Prop} (h1 : gs.length * k ≤ 100000) (h0 : k < 2 ^ 60) (h : Q (.fr (.lst (((List.replicate k gs).flatten).map D.int)))) : mulD (.lst (gs.map D.int)) (.int (k : Int)) Q := by
  refine i_mulL ⟨by omega, by omega, ?_⟩ ?_
  · rw [List.length_map, Int.toNat_natCast]; exact h1
  · rw [Int.toNat_natCast, rep_ints]; exact h
end DL
namespace DL
end DL
/-! the data layer, part 54: equality of trees of numbers -/
namespace DL
open PySem PySem.Spec PyProof.Rows L2
end DL
/-! the data layer, part 55: x[a:c] = a list, x a place -/
namespace DL
open PySem PySem.Spec PyProof.Rows L2
section
variable {X : Cx} {C : Ctx} {pos p2 : Pos} {o lo hi : Expr} {to tl th : TE} {mo ml mh : DTE}
def mgSlc (mo ml mh : DTE) : DTG := fun d Γ Q => mo Γ fun ro Γ1 => ml Γ1 fun rl Γ2 => mh Γ2 fun rh Γ3 => ∃ i xs ys a c, ro = .pl i ∧ cont Γ3[i]? = some (.lst xs) ∧ d = .lst ys ∧ rl = .val (.int a) ∧ rh = .val (.int c) ∧ 0 ≤ a ∧ a ≤ c ∧ c ≤ xs.length ∧ xs.length + ys.length ≤ 100000 ∧ ∃ Γ4, setC Γ3 i (.lst (xs.take a.toNat ++ ys ++ xs.drop c.toNat)) = some Γ4 ∧ Q Γ4
end
def slck (d : D) (ro rl rh : Res) (Γ : Env) (Q : Env → Prop) : Prop := ∃ i xs ys a c, ro = .pl i ∧ cont Γ[i]? = some (.lst xs) ∧ d = .lst ys ∧ rl = .val (.int a) ∧ rh = .val (.int c) ∧ 0 ≤ a ∧ a ≤ c ∧ c ≤ xs.length ∧ xs.length + ys.length ≤ 100000 ∧ ∃ Γ4, setC Γ i (.lst (xs.take a.toNat ++ ys ++ xs.drop c.toNat)) = some Γ4 ∧ Q Γ4
theorem g_Slc {mo ml mh : DTE} {d : D} {Γ : Env} {Q : Env → Prop} (h : mo Γ fun ro Γ1 => ml Γ1 fun rl Γ2 => mh Γ2 fun rh Γ3 => slck d ro rl rh Γ3 Q) : mgSlc mo ml mh d Γ Q := h
end DL
/-! the data layer, part 56: small tools -/
namespace DL
open PySem PySem.Spec PyProof.Rows L2
theorem i_inP {i : Int} {l : List Int} {Q : Res → Prop} (h : Q (.val (.bl (decide (i ∈ l))))) : inD (.int i) (.tup (l.map D.int)) Q := ⟨i, l, rfl, ints?_map l, h⟩
end DL
/-! the data layer, part 57: dicts -/
namespace DL
open PySem PySem.Spec PyProof.Rows L2
def keyO : D → Option L2.Key
  | .int i => some (.inl i)
  | .str s => some (.inr s)
  | _ => none
def keyD : L2.Key → D
  | .inl i => .int i
  | .inr s => .str s
def keysO : List D → Option (List L2.Key)
  | [] => some []
  | d :: ds => match keyO d, keysO ds with
    | some k, some ks => some (k :: ks)
    | _, _ => none
section
variable {κ : Type} [DecidableEq κ]
def lookE (kvs : List (κ × D)) (k : κ) : Option D := (kvs.find? fun kv => decide (kv.1 = k)).map (·.2)
def putE (kvs : List (κ × D)) (k : κ) (v : D) : List (κ × D) := if (kvs.any fun kv => decide (kv.1 = k)) = true then kvs.map (fun kv => if kv.1 = k then (kv.1, v) else kv) else kvs ++ [(k, v)]
end
/-- what stands at a key: none: no such key; outer none: not a dict, not a key -/
def lookD : D → D → Option (Option D)
  | .dic kvs, k => (keyO k).map (lookE kvs)
  | .dkl kvs, k => (keyO k).map (lookE kvs)
  | .dit kvs, .tup ds => (keysO ds).map (lookE kvs)
  | .dtl kvs, .tup ds => (keysO ds).map (lookE kvs)
  | _, _ => none
def isDic : D → Bool
  | .dic _ => true
  | .dkl _ => true
  | .dit _ => true
  | .dtl _ => true
  | _ => false
/-- d[k] = v -/
def putD : D → D → D → Option D
  | .dic kvs, k, v => (keyO k).bind fun k => if kvs.length < 100000 then some (.dic (putE kvs k v)) else none
  | .dit kvs, .tup ds, v => (keysO ds).bind fun k => if kvs.length < 100000 then some (.dit (putE kvs k v)) else none
  | _, _, _ => none
section
variable {K : Fg} {H : Hp} {O : List Addr}
theorem keyO_ok {x : V} {d : D} {k : L2.Key} (h : B2 K O H x d) (e : keyO d = some k) : x = kV k := by
  cases d with
  | int i => cases e; exact h.int
  | str s => cases e; exact h.str
  | _ => cases e
theorem keyO_okR {x : V} {d : D} {k : L2.Key} (h : Rep K H x d) (e : keyO d = some k) : x = kV k := by
  cases d with
  | int i => cases e; cases h; rfl
  | str s => cases e; cases h; rfl
  | _ => cases e
theorem keysO_ok : ∀ {xs : List V} {ds : List D} {ks : List L2.Key}, Reps K H xs ds → keysO ds = some ks → xs = ks.map kV
  | _, _, _, .nil, e => by cases e; rfl
  | _, _, ks, .cons (d := d) (ds := ds) h t, e => by
    unfold keysO at e
    split at e
    · rename_i k ks' e1 e2
      cases e
      rw [keyO_okR h e1, keysO_ok t e2]; rfl
    · cases e
theorem repK_look {kvs : List (L2.Key × V)} {dks : List (L2.Key × D)} (r : RepK K H kvs dks) (k : L2.Key) : (∀ d, lookE dks k = some d → ∃ v, valV kvs k = some v ∧ Rep K H v d) ∧ (lookE dks k = none → valV kvs k = none) := by
  induction dks generalizing kvs with
  | nil => cases r; exact ⟨fun d h => (nomatch h), fun _ => rfl⟩
  | cons p ps ih =>
    cases r with
    | cons hv t =>
      rename_i j v d vs
      obtain ⟨i1, i2⟩ := ih t
      by_cases e : j = k
      · subst e
        refine ⟨fun d' h => ?_, fun h => ?_⟩
        · have h' : some d = some d' := by simpa [lookE, List.find?_cons] using h
          cases h'
          exact ⟨v, valV_pos rfl, hv⟩
        · simp [lookE, List.find?_cons] at h
      · have e1 : lookE ((j, d) :: ps) k = lookE ps k := by simp [lookE, List.find?_cons, e]
        rw [e1, valV_neg (p := (j, v)) e]
        exact ⟨i1, i2⟩
theorem repT_look {kvs : List (List L2.Key × V)} {dks : List (List L2.Key × D)} (r : RepT K H kvs dks) (k : List L2.Key) : (∀ d, lookE dks k = some d → ∃ v, valV kvs k = some v ∧ Rep K H v d) ∧ (lookE dks k = none → valV kvs k = none) := by
  induction dks generalizing kvs with
  | nil => cases r; exact ⟨fun d h => (nomatch h), fun _ => rfl⟩
  | cons p ps ih =>
    cases r with
    | cons hv t =>
      rename_i j v d vs
      obtain ⟨i1, i2⟩ := ih t
      by_cases e : j = k
      · subst e
        refine ⟨fun d' h => ?_, fun h => ?_⟩
        · have h' : some d = some d' := by simpa [lookE, List.find?_cons] using h
          cases h'
          exact ⟨v, valV_pos rfl, hv⟩
        · simp [lookE, List.find?_cons] at h
      · have e1 : lookE ((j, d) :: ps) k = lookE ps k := by simp [lookE, List.find?_cons, e]
        rw [e1, valV_neg (p := (j, v)) e]
        exact ⟨i1, i2⟩
theorem RepK.len : ∀ {kvs : List (L2.Key × V)} {dks : List (L2.Key × D)}, RepK K H kvs dks → kvs.length = dks.length
  | _, _, .nil => rfl
  | _, _, .cons _ t => by rw [List.length_cons, List.length_cons, RepK.len t]
theorem RepT.len : ∀ {kvs : List (List L2.Key × V)} {dks : List (List L2.Key × D)}, RepT K H kvs dks → kvs.length = dks.length
  | _, _, .nil => rfl
  | _, _, .cons _ t => by rw [List.length_cons, List.length_cons, RepT.len t]
theorem RepK.app : ∀ {kvs ls : List (L2.Key × V)} {dks es : List (L2.Key × D)}, RepK K H kvs dks → RepK K H ls es → RepK K H (kvs ++ ls) (dks ++ es)
  | _, _, _, _, .nil, s => s
  | _, _, _, _, .cons h t, s => .cons h (RepK.app t s)
theorem RepT.app : ∀ {kvs ls : List (List L2.Key × V)} {dks es : List (List L2.Key × D)}, RepT K H kvs dks → RepT K H ls es → RepT K H (kvs ++ ls) (dks ++ es)
  | _, _, _, _, .nil, s => s
  | _, _, _, _, .cons h t, s => .cons h (RepT.app t s)
theorem RepK.any {k : L2.Key} : ∀ {kvs : List (L2.Key × V)} {dks : List (L2.Key × D)}, RepK K H kvs dks → (kvs.any fun kv => decide (kv.1 = k)) = dks.any fun kv => decide (kv.1 = k)
  | _, _, .nil => rfl
  | _, _, .cons h t => by rw [List.any_cons, List.any_cons, RepK.any t]
theorem RepT.any {k : List L2.Key} : ∀ {kvs : List (List L2.Key × V)} {dks : List (List L2.Key × D)}, RepT K H kvs dks → (kvs.any fun kv => decide (kv.1 = k)) = dks.any fun kv => decide (kv.1 = k)
  | _, _, .nil => rfl
  | _, _, .cons h t => by rw [List.any_cons, List.any_cons, RepT.any t]
theorem RepK.repl {k : L2.Key} {v : V} {d : D} (hv : Rep K H v d) : ∀ {kvs : List (L2.Key × V)} {dks : List (L2.Key × D)}, RepK K H kvs dks → RepK K H (kvs.map fun kv => if kv.1 = k then (kv.1, v) else kv) (dks.map fun kv => if kv.1 = k then (kv.1, d) else kv)
  | _, _, .nil => .nil
  | _, _, .cons (k := j) h t => by
    rw [List.map_cons, List.map_cons]
    by_cases e : j = k
    · rw [if_pos e, if_pos e]; exact .cons hv (RepK.repl hv t)
    · rw [if_neg e, if_neg e]; exact .cons h (RepK.repl hv t)
theorem RepT.repl {k : List L2.Key} {v : V} {d : D} (hv : Rep K H v d) : ∀ {kvs : List (List L2.Key × V)} {dks : List (List L2.Key × D)}, RepT K H kvs dks → RepT K H (kvs.map fun kv => if kv.1 = k then (kv.1, v) else kv) (dks.map fun kv => if kv.1 = k then (kv.1, d) else kv)
  | _, _, .nil => .nil
  | _, _, .cons (k := j) h t => by
    rw [List.map_cons, List.map_cons]
    by_cases e : j = k
    · rw [if_pos e, if_pos e]; exact .cons hv (RepT.repl hv t)
    · rw [if_neg e, if_neg e]; exact .cons h (RepT.repl hv t)
theorem RepK.put {kvs : List (L2.Key × V)} {dks : List (L2.Key × D)} (r : RepK K H kvs dks) (k : L2.Key) {v : V} {d : D} (hv : Rep K H v d) : RepK K H (L2.putK kvs k v) (putE dks k d) := by
  unfold L2.putK putE
  rw [r.any (k := k)]
  split
  · exact r.repl hv
  · exact r.app (.cons hv .nil)
theorem RepT.put {kvs : List (List L2.Key × V)} {dks : List (List L2.Key × D)} (r : RepT K H kvs dks) (k : List L2.Key) {v : V} {d : D} (hv : Rep K H v d) : RepT K H (L2.putK kvs k v) (putE dks k d) := by
  unfold L2.putK putE
  rw [r.any (k := k)]
  split
  · exact r.repl hv
  · exact r.app (.cons hv .nil)
/-- what a dict answers -/
theorem dget_of {x y : V} {c kd : D} {o : Option D} (hx : B2 K O H x c) (hy : B2 K O H y kd) (e : lookD c kd = some o) : ∃ a ov, x = .ref a ∧ DGet H a y ov ∧ (∀ d, o = some d → ∃ v, ov = some v ∧ Rep K (hide O H) v d) ∧ (o = none → ov = none) := by
  cases c with
  | dic kvs =>
    obtain ⟨a, vs, rfl, hH, r⟩ := hx.dic
    have e : (keyO kd).map (lookE kvs) = some o := e
    cases hk : keyO kd with
    | none => rw [hk] at e; cases e
    | some k =>
      rw [hk] at e
      cases e
      rw [keyO_ok hy hk]
      exact ⟨a, _, rfl, .inl ⟨vs, k, .inl hH, rfl, rfl⟩, (repK_look r k).1, (repK_look r k).2⟩
  | dkl kvs =>
    have e : (keyO kd).map (lookE kvs) = some o := e
    cases hk : keyO kd with
    | none => rw [hk] at e; cases e
    | some k =>
      rw [hk] at e
      cases e
      rw [keyO_ok hy hk]
      rcases hx with hx | ⟨l, ob, _, _, hx⟩
      · cases hx with | dkl hH r => exact ⟨_, _, rfl, .inl ⟨_, k, .inr ⟨_, hide_same _ _ hH⟩, rfl, rfl⟩, (repK_look r k).1, (repK_look r k).2⟩
      · cases hx
  | dit kvs =>
    cases kd with
    | tup ds =>
      have e : (keysO ds).map (lookE kvs) = some o := e
      cases hk : keysO ds with
      | none => rw [hk] at e; cases e
      | some ks =>
        rw [hk] at e
        cases e
        obtain ⟨a, vs, rfl, hH, r⟩ := hx.dit
        obtain ⟨b, us, rfl, hb, ru⟩ := hy.tup
        rw [keysO_ok ru hk] at hb
        exact ⟨a, _, rfl, .inr ⟨vs, ks, b, .inl hH, rfl, hb, rfl⟩, (repT_look r ks).1, (repT_look r ks).2⟩
    | _ => cases e
  | dtl kvs =>
    cases kd with
    | tup ds =>
      have e : (keysO ds).map (lookE kvs) = some o := e
      cases hk : keysO ds with
      | none => rw [hk] at e; cases e
      | some ks =>
        rw [hk] at e
        cases e
        obtain ⟨b, us, rfl, hb, ru⟩ := hy.tup
        rw [keysO_ok ru hk] at hb
        rcases hx with hx | ⟨l, ob, _, _, hx⟩
        · cases hx with | dtl hH r => exact ⟨_, _, rfl, .inr ⟨_, ks, b, .inr ⟨_, hide_same _ _ hH⟩, rfl, hb, rfl⟩, (repT_look r ks).1, (repT_look r ks).2⟩
        · cases hx
    | _ => cases e
  | _ => cases e
end
/-! ### d[k], k in d, d.get(k, x) -/
def dgetD : D → D → (Res → Prop) → Prop := fun c k Q => ∃ d, lookD c k = some (some d) ∧ Q (.val d)
def dinD : D → D → (Res → Prop) → Prop := fun k c Q => ∃ o, lookD c k = some o ∧ Q (.val (.bl o.isSome))
def uDGet : R2 := fun x y H Q => ∃ a v, x = .ref a ∧ DGet H a y (some v) ∧ Q v H
def uDIn : R2 := fun y x H Q => ∃ a o, x = .ref a ∧ DGet H a y o ∧ Q (.bl o.isSome) H
theorem some_same {o : Option D} {ov : Option V} {P : V → D → Prop} (h1 : ∀ d, o = some d → ∃ v, ov = some v ∧ P v d) (h2 : o = none → ov = none) : ov.isSome = o.isSome := by
  cases o with
  | none => rw [h2 rfl]; rfl
  | some d => obtain ⟨v, e, _⟩ := h1 d rfl; rw [e]; rfl
theorem sim_dget {K : Fg} : SimR2 K uDGet dgetD := fun O H x y a b Qd Q h1 h2 q k => by
  obtain ⟨d, e, q⟩ := q
  obtain ⟨p, ov, rfl, g, g1, _⟩ := dget_of h1 h2 e
  obtain ⟨v, rfl, r⟩ := g1 d rfl
  exact ⟨p, v, rfl, g, k.val v d r q⟩
theorem sim_din {K : Fg} : SimR2 K uDIn dinD := fun O H x y a b Qd Q h1 h2 q k => by
  obtain ⟨o, e, q⟩ := q
  obtain ⟨p, ov, rfl, g, g1, g2⟩ := dget_of h2 h1 e
  exact ⟨p, ov, rfl, g, by rw [some_same g1 g2]; exact k.val _ _ (.bl _) q⟩
/-- d.get(k, x) -/
def mDGet2 (mo mk mx : DTE) : DTE := fun Γ Q => mo Γ fun ro Γ1 => (∃ c, rd Γ1 ro = some c ∧ isDic c = true) ∧ mk Γ1 fun rk Γ2 => mx Γ2 fun rx Γ3 => ∃ c k o dx, rd Γ3 ro = some c ∧ rd Γ3 rk = some k ∧ lookD c k = some o ∧ dat rx = some dx ∧ Q (.val (o.getD dx)) Γ3
section
variable {X : Cx} {C : Ctx} {to ti tx : TE} {mo mi mx : DTE} {o i x : Expr} {pos apos cpos : Pos}
theorem de_dget (hu : X.A.units + 1 < cLine) (ho : DE X C o to mo) (hi : DE X C i ti mi) (hs : NoSl i := by intro _ _; rfl) : DE X C (.Subscript o i pos) (tOp uDGet to ti) (mOp dgetD mo mi) := ⟨pe_dget hu ho.pe hi.pe hs, sim_op ho.sim hi.sim sim_dget⟩
theorem dt_din (hu : X.A.units + 1 < cLine) (hi : DE X C i ti mi) (ho : DE X C o to mo) (hm : behindInMarks .In o = false := by rfl) : DT X C (.Compare i [.In] [o] pos) (tB (tOp uDIn ti to)) (mTest (mOp dinD mi mo)) := ⟨pt_cmp (pc_din hu hi.pe ho.pe) (h1 := hm), sim_testB (sim_op hi.sim ho.sim sim_din)⟩
end
/-! ### d[k] = v -/
def mDPut (mo mi mv : DTE) : DTS := fun De Γ => mv Γ fun rv Γ1 => mo Γ1 fun ro Γ2 => mi Γ2 fun ri Γ3 => ∃ i c k dv c', ro = .pl i ∧ mcont Γ3[i]? = some c ∧ rd Γ3 ri = some k ∧ dat rv = some dv ∧ putD c k dv = some c' ∧ ∃ Γ4, setC Γ3 i c' = some Γ4 ∧ De.nx Γ4
theorem dput_of {K : Fg} {O : List Addr} {H : Hp} {l : Addr} {o : HO} {c kd dv c' : D} {y v : V} (hl : H l = some o) (ho : OwnOk K (hide O H) o c) (hy : B2 K O H y kd) (hv : Rep K (hide O H) v dv) (e : putD c kd dv = some c') : ∃ o', DPut H l y v (upd H l o') ∧ OwnOk K (hide O H) o' c' := by
  cases ho with
  | dic r =>
    rename_i kvs dks
    have e : ((keyO kd).bind fun k => if dks.length < 100000 then some (D.dic (putE dks k dv)) else none) = some c' := e
    cases hk : keyO kd with
    | none => rw [hk] at e; cases e
    | some k =>
      rw [hk, Option.bind_some] at e
      split at e
      · rename_i hlen
        cases e
        rw [keyO_ok hy hk]
        exact ⟨_, .inl ⟨kvs, k, hl, rfl, by rw [r.len]; exact Nat.lt_of_lt_of_le hlen (by decide), rfl⟩, .dic (r.put k hv)⟩
      · cases e
  | dit r =>
    rename_i kvs dks
    cases kd with
    | tup ds =>
      have e : ((keysO ds).bind fun k => if dks.length < 100000 then some (D.dit (putE dks k dv)) else none) = some c' := e
      cases hk : keysO ds with
      | none => rw [hk] at e; cases e
      | some ks =>
        rw [hk, Option.bind_some] at e
        split at e
        · rename_i hlen
          cases e
          obtain ⟨b, us, rfl, hb, ru⟩ := hy.tup
          rw [keysO_ok ru hk] at hb
          exact ⟨_, .inr ⟨kvs, ks, b, hl, rfl, hb, by rw [r.len]; exact Nat.lt_of_lt_of_le hlen (by decide), rfl⟩, .dit (r.put ks hv)⟩
        · cases e
    | _ => cases e
  | lst r => cases e
  | obj _ r => cases e
section
variable {X : Cx} {C : Ctx} {to ti tv : TE} {mo mi mv : DTE} {o i value : Expr} {pos pos' : Pos}
theorem sim_dput (ho : SimE C to mo) (hi : SimE C ti mi) (hv : SimE C tv mv) : SimS C (sDPut to ti tv) (mDPut mo mi mv) := fun Γ O σ H Dv Dd R h L => by
  refine hv Γ O σ H _ _ R h fun rv Γ1 v H1 R1 e1 q1 => ?_
  refine ho Γ1 O σ H1 _ _ R1.rel q1 fun ro Γ2 x H2 R2 e2 q2 => ?_
  refine hi Γ2 O σ H2 _ _ R2.rel q2 fun ri Γ3 y H3 R3 e3 q3 => ?_
  obtain ⟨j, c, kd, dv, c', rfl, hc, hk, hd, hp, Γ4, hs, q⟩ := q3
  have hσ : σ[j]? = some (some x) := R2.2
  have pl : ∃ l o, x = .ref l ∧ H3 l = some o ∧ OwnOk C.K (hide O H3) o c := by
    rcases mcont_of hc with g | g
    · obtain ⟨l, o, h1, _, _, h4, h5⟩ := R3.rel.sl j _ g
      rw [hσ] at h1; cases h1; exact ⟨l, o, rfl, h4, h5⟩
    · obtain ⟨l, o, h1, _, _, h4, h5⟩ := R3.rel.sl j _ g
      rw [hσ] at h1; cases h1; exact ⟨l, o, rfl, h4, h5⟩
  obtain ⟨l, ob, rfl, hl, hb⟩ := pl
  have rvv := (R1.pend.mono (L2.Same.trans e2.1 e3.1)).dat hd
  obtain ⟨o', g, ho'⟩ := dput_of hl hb (R3.pend.b2 R3.rel hk) rvv hp
  obtain ⟨R4, e4⟩ := set_relO R3.rel hs hσ ho'
  exact ⟨l, _, rfl, g, L.nx Γ4 O σ _ R4 q⟩
theorem ds_dput (hu : X.A.units + 1 < cLine) (ho : DE X C o to mo) (hi : DE X C i ti mi) (hv : DE X C value tv mv) (hs : swapsWith value (some (.Subscript o i pos')) pos.line X.env = pure false := by rfl) : DS X C (.Assign [.Subscript o i pos'] value pos) (sDPut to ti tv) (mDPut mo mi mv) := ⟨ps_dput hu ho.pe hi.pe hv.pe hs, sim_dput ho.sim hi.sim hv.sim⟩
end
/-! ### displays -/
def mDict0T : DTE := fun Γ Q => Q (.fr (.dit [])) Γ
/-- {k: v} -/
def mDict1 (mk mv : DTE) : DTE := fun Γ Q => mk Γ fun rk Γ1 => mv Γ1 fun rv Γ2 => ∃ kd k dv, rd Γ2 rk = some kd ∧ keyO kd = some k ∧ dat rv = some dv ∧ Q (.fr (.dic [(k, dv)])) Γ2
/-! ### a dict that is not changed any more: locked -/
def lockD : D → Option D
  | .dic kvs => some (.dkl kvs)
  | .dit kvs => some (.dtl kvs)
  | _ => none
/-- a new dict, from now on shared -/
def mLock (m : DTE) : DTE := fun Γ Q => m Γ fun r Γ1 => ∃ d d', r = .fr d ∧ lockD d = some d' ∧ Q (.val d') Γ1
/-- an own dict is not changed any more -/
def mFrzL (i : Nat) (m : DTS) : DTS := fun De Γ => ∃ d d', Γ[i]? = some (.ow d) ∧ lockD d = some d' ∧ m De (Γ.set i (.sh d'))
end DL
/-! the data layer, part 58: walks over dicts; the evaluator's lemmas for dicts -/
namespace DL
open PySem PySem.Spec PyProof.Rows L2
theorem room1 {n : Nat} (h : n + 65 < cLine) : n + 1 < cLine := by omega
def itemD (p : L2.Key × D) : D := .tup [keyD p.1, p.2]
def mKeysW (m : DTE) : DTI := fun Γ Q => m Γ fun r Γ1 => ∃ kvs, r = .val (.dkl kvs) ∧ ∀ o vs, Q (.v2 (.pnK o vs) (.dkl kvs)) (kvs.map fun p => keyD p.1) Γ1
def mItemsW (m : DTE) : DTI := fun Γ Q => m Γ fun r Γ1 => ∃ kvs, r = .val (.dkl kvs) ∧ ∀ o vs, Q (.v2 (.pnK o vs) (.dkl kvs)) (kvs.map itemD) Γ1
def mValsW (m : DTE) : DTI := fun Γ Q => m Γ fun r Γ1 => ∃ kvs, r = .val (.dkl kvs) ∧ ∀ o vs, Q (.v2 (.pnK o vs) (.dkl kvs)) (kvs.map (·.2)) Γ1
/-! ### the evaluator -/
section
variable {Γ Γ1 Γ2 : Env} {Q : QE} {mo mi mx : DTE} {m : DTS} {d d' : D} {i : Nat} {nx : Env → Prop}
def kwk (f : L2.Key × D → D) (r : Res) (Γ : Env) (Q : Src → List D → Env → Prop) : Prop := ∃ kvs, r = .val (.dkl kvs) ∧ ∀ o vs, Q (.v2 (.pnK o vs) (.dkl kvs)) (kvs.map f) Γ
theorem w_KeysW {Q : Src → List D → Env → Prop} (h : mo Γ fun r Γ1 => kwk (fun p => keyD p.1) r Γ1 Q) : mKeysW mo Γ Q := h
theorem w_ItemsW {Q : Src → List D → Env → Prop} (h : mo Γ fun r Γ1 => kwk itemD r Γ1 Q) : mItemsW mo Γ Q := h
theorem w_ValsW {Q : Src → List D → Env → Prop} (h : mo Γ fun r Γ1 => kwk (·.2) r Γ1 Q) : mValsW mo Γ Q := h
theorem w_kw {f : L2.Key × D → D} {Q : Src → List D → Env → Prop} {kvs : List (L2.Key × D)} (h : ∀ o vs, Q (.v2 (.pnK o vs) (.dkl kvs)) (kvs.map f) Γ) : kwk f (.val (.dkl kvs)) Γ Q := ⟨kvs, rfl, h⟩
theorem i_dget {c k : D} {Q : Res → Prop} (h1 : lookD c k = some (some d)) (h : Q (.val d)) : dgetD c k Q := ⟨d, h1, h⟩
theorem i_din {c k : D} {o : Option D} {Q : Res → Prop} (h1 : lookD c k = some o) (h : Q (.val (.bl o.isSome))) : dinD k c Q := ⟨o, h1, h⟩
def g2b (ro rk rx : Res) (Γ : Env) (Q : QE) : Prop := ∃ c k o dx, rd Γ ro = some c ∧ rd Γ rk = some k ∧ lookD c k = some o ∧ dat rx = some dx ∧ Q (.val (o.getD dx)) Γ
def g2a (ro : Res) (mi mx : DTE) (Γ : Env) (Q : QE) : Prop := (∃ c, rd Γ ro = some c ∧ isDic c = true) ∧ mi Γ fun rk Γ2 => mx Γ2 fun rx Γ3 => g2b ro rk rx Γ3 Q
theorem e_DGet2 (h : mo Γ fun ro Γ1 => g2a ro mi mx Γ1 Q) : mDGet2 mo mi mx Γ Q := h
theorem e_g2a {ro : Res} {c : D} (h1 : rd Γ ro = some c) (h2 : isDic c = true) (h : mi Γ fun rk Γ2 => mx Γ2 fun rx Γ3 => g2b ro rk rx Γ3 Q) : g2a ro mi mx Γ Q := ⟨⟨c, h1, h2⟩, h⟩
def dpk (rv ro ri : Res) (Γ : Env) (nx : Env → Prop) : Prop := ∃ i c k dv c', ro = .pl i ∧ mcont Γ[i]? = some c ∧ rd Γ ri = some k ∧ dat rv = some dv ∧ putD c k dv = some c' ∧ ∃ Γ4, setC Γ i c' = some Γ4 ∧ nx Γ4
theorem s_DPut {D0 : DEnds} {mv : DTE} (h : mv Γ fun rv Γ1 => mo Γ1 fun ro Γ2 => mi Γ2 fun ri Γ3 => dpk rv ro ri Γ3 D0.nx) : mDPut mo mi mv D0 Γ := h
theorem s_dput {rv ri : Res} {c k dv c' : D} {Γ4 : Env} (h1 : mcont Γ[i]? = some c) (h2 : rd Γ ri = some k) (h3 : dat rv = some dv) (h4 : putD c k dv = some c') (h5 : setC Γ i c' = some Γ4) (h : nx Γ4) : dpk rv (.pl i) ri Γ nx := ⟨i, c, k, dv, c', rfl, h1, h2, h3, h4, Γ4, h5, h⟩
def lkk (r : Res) (Γ : Env) (Q : QE) : Prop := ∃ d d', r = .fr d ∧ lockD d = some d' ∧ Q (.val d') Γ
theorem e_Lock {m : DTE} (h : m Γ fun r Γ1 => lkk r Γ1 Q) : mLock m Γ Q := h
theorem e_lkK {kvs : List (L2.Key × D)} (h : Q (.val (.dkl kvs)) Γ) : lkk (.fr (.dic kvs)) Γ Q := ⟨_, _, rfl, rfl, h⟩
theorem e_lkT {kvs : List (List L2.Key × D)} (h : Q (.val (.dtl kvs)) Γ) : lkk (.fr (.dit kvs)) Γ Q := ⟨_, _, rfl, rfl, h⟩
theorem s_frzL {D0 : DEnds} (h1 : Γ[i]? = some (.ow d)) (h2 : lockD d = some d') (h3 : Γ.set i (.sh d') = Γ1) (h : m D0 Γ1) : mFrzL i m D0 Γ := ⟨d, d', h1, h2, by rw [h3]; exact h⟩
def d1k (rk rv : Res) (Γ : Env) (Q : QE) : Prop := ∃ kd k dv, rd Γ rk = some kd ∧ keyO kd = some k ∧ dat rv = some dv ∧ Q (.fr (.dic [(k, dv)])) Γ
theorem e_Dict1 {mk mv : DTE} (h : mk Γ fun rk Γ1 => mv Γ1 fun rv Γ2 => d1k rk rv Γ2 Q) : mDict1 mk mv Γ Q := h
theorem e_d1 {rk rv : Res} {k : Int} {dv : D} (h1 : rd Γ rk = some (.int k)) (h2 : dat rv = some dv) (h : Q (.fr (.dic [(.inl k, dv)])) Γ) : d1k rk rv Γ Q := ⟨_, _, dv, h1, rfl, h2, h⟩
theorem e_Dict0T (h : Q (.fr (.dit [])) Γ) : mDict0T Γ Q := h
end
/-! ### dicts of ints -/
def prK (l : List (Int × Int)) : List (L2.Key × D) := l.map fun p => (.inl p.1, .int p.2)
def lookI (l : List (Int × Int)) (k : Int) : Option Int := (l.find? fun p => decide (p.1 = k)).map (·.2)
def putI (l : List (Int × Int)) (k v : Int) : List (Int × Int) := if (l.any fun p => decide (p.1 = k)) = true then l.map (fun p => if p.1 = k then (p.1, v) else p) else l ++ [(k, v)]
theorem lookI_put (l : List (Int × Int)) (k j v : Int) : lookI (putI l k v) j = if j = k then some v else lookI l j := by
  unfold putI
  split
  · rename_i h
    induction l with
    | nil => simp at h
    | cons p l ih =>
      unfold lookI at *
      rw [List.map_cons, List.find?_cons, List.find?_cons]
      by_cases hp : p.1 = k
      · rw [if_pos hp]
        dsimp only
        by_cases hj : j = k
        · rw [if_pos hj, decide_eq_true (by rw [hp, hj])]; rfl
        · rw [if_neg hj, decide_eq_false (fun z => hj (by rw [← z, hp]))]
          dsimp only
          by_cases ha : (l.any fun p => decide (p.1 = k)) = true
          · have := ih ha
            rw [if_neg hj] at this
            exact this
          · have e : l.map (fun p => if p.1 = k then (p.1, v) else p) = l := by
              conv => rhs; rw [← List.map_id l]
              refine List.map_congr_left fun q hq => ?_
              rw [if_neg fun z => ha (List.any_eq_true.mpr ⟨q, hq, decide_eq_true z⟩)]; rfl
            rw [e]
      · rw [if_neg hp]
        rw [List.any_cons, decide_eq_false hp, Bool.false_or] at h
        by_cases hj : p.1 = j
        · rw [decide_eq_true hj, if_neg fun z => hp (by rw [hj, z])]
        · rw [decide_eq_false hj]; exact ih h
  · rename_i h
    unfold lookI
    rw [List.find?_append]
    have hn : ∀ p ∈ l, ¬ p.1 = k := fun p hp z => h (List.any_eq_true.mpr ⟨p, hp, decide_eq_true z⟩)
    by_cases hj : j = k
    · subst hj
      rw [if_pos rfl, List.find?_eq_none.mpr fun p hp => by simpa using hn p hp]
      simp
    · rw [if_neg hj]
      have e : ([(k, v)] : List (Int × Int)).find? (fun p => decide (p.1 = j)) = none := by
        rw [List.find?_cons, decide_eq_false fun z => hj z.symm]; rfl
      rw [e, Option.or_none]
end DL
/-! the data layer, part 59: the least of rows of ints; pairs of ints sorted -/
namespace DL
open PySem PySem.Spec PyProof.Rows L2
def hd0 (r : List Int) : Int := r.getD 0 0
/-! over data -/
end DL
/-! the data layer, part 60: d.get(k) -/
namespace DL
open PySem PySem.Spec PyProof.Rows L2
def mDGet1 (mo mk : DTE) : DTE := fun Γ Q => mo Γ fun ro Γ1 => (∃ c, rd Γ1 ro = some c ∧ isDic c = true) ∧ mk Γ1 fun rk Γ2 => ∃ c k o, rd Γ2 ro = some c ∧ rd Γ2 rk = some k ∧ lookD c k = some o ∧ Q (.val (o.getD .non)) Γ2
section
variable {Γ : Env} {Q : QE} {mo mi : DTE}
def g1b (ro rk : Res) (Γ : Env) (Q : QE) : Prop := ∃ c k o, rd Γ ro = some c ∧ rd Γ rk = some k ∧ lookD c k = some o ∧ Q (.val (o.getD .non)) Γ
def g1a (ro : Res) (mi : DTE) (Γ : Env) (Q : QE) : Prop := (∃ c, rd Γ ro = some c ∧ isDic c = true) ∧ mi Γ fun rk Γ2 => g1b ro rk Γ2 Q
theorem e_DGet1 (h : mo Γ fun ro Γ1 => g1a ro mi Γ1 Q) : mDGet1 mo mi Γ Q := h
theorem e_g1a {ro : Res} {c : D} (h1 : rd Γ ro = some c) (h2 : isDic c = true) (h : mi Γ fun rk Γ2 => g1b ro rk Γ2 Q) : g1a ro mi Γ Q := ⟨⟨c, h1, h2⟩, h⟩
end
end DL
/-! the data layer, part 61: sorted(d), d a dict with int keys, any number of them -/
namespace DL
open PySem PySem.Spec PyProof.Rows L2
/-! ### x = e, where e answers a plain value or a fresh object -/
def sel (i : Nat) (r : Res) (Γ : Env) (nx : Env → Prop) : Prop := (∃ d, r = .val d ∧ freeB Γ i = true ∧ nx (Γ.set i (.sh d))) ∨ ∃ d, r = .fr d ∧ freeB Γ i = true ∧ nx (Γ.set i (.ow d))
def mSetE (i : Nat) (ma : DTE) : DTS := fun D Γ => ma Γ fun r Γ1 => sel i r Γ1 D.nx
section
variable {X : Cx} {C : Ctx} {st : Stmt} {e : Expr} {te : TE} {me : DTE} {Γ Γ' : Env} {nx bk ct : Env → Prop} {rt : Res → Env → Prop} {i : Nat} {d : D}
theorem s_SetE {ma : DTE} (h : ma Γ fun r Γ1 => sel i r Γ1 nx) : mSetE i ma (.mk nx rt bk ct) Γ := h
theorem s_setEv (h2 : freeB Γ i = true) (h3 : Γ.set i (.sh d) = Γ') (h : nx Γ') : sel i (.val d) Γ nx := .inl ⟨_, rfl, h2, by rw [h3]; exact h⟩
theorem s_setEo (h2 : freeB Γ i = true) (h3 : Γ.set i (.ow d) = Γ') (h : nx Γ') : sel i (.fr d) Γ nx := .inr ⟨_, rfl, h2, by rw [h3]; exact h⟩
end
/-! ### len(d), d a shared dict -/
end DL
/-! the data layer, part 62: goals by kind (the evaluator looks only at the lemmas of a goal's kind) -/
namespace DL
open PySem PySem.Spec PyProof.Rows L2
theorem gkE {F : Env → QE → Prop} {a : Env} {b : QE} (h : F a b) : F a b := h
theorem gkO {F : D → (Res → Prop) → Prop} {a : D} {b : Res → Prop} (h : F a b) : F a b := h
theorem gkB {F : List D → (Res → Prop) → Prop} {a : List D} {b : Res → Prop} (h : F a b) : F a b := h
theorem gkS {F : DEnds → Env → Prop} {a : DEnds} {b : Env} (h : F a b) : F a b := h
theorem gkT {F : Env → (Env → Prop) → Prop} {a : Env} {b : Env → Prop} (h : F a b) : F a b := h
theorem gkW {F : Env → (Src → List D → Env → Prop) → Prop} {a : Env} {b : Src → List D → Env → Prop} (h : F a b) : F a b := h
theorem gkL {F : Env → (List Res → Env → Prop) → Prop} {a : Env} {b : List Res → Env → Prop} (h : F a b) : F a b := h
theorem gkP {p : Prop} [Decidable p] {a b : Prop} (h : if p then a else b) : if p then a else b := h
theorem gkX {F : (Bool → D → List D → Prop) → EdT → Prop} {a : Bool → D → List D → Prop} {b : EdT} (h : F a b) : F a b := h
end DL
/-! the data layer, part 63: != of two tuples (a truth, an object of the module with its own ==), all equal: False -/
namespace DL
open PySem PySem.Spec PyProof.Rows L2 GQ
/-! over data -/
def mNeTO (C : Addr) (sd : DSp) (ma mb : DTE) : DTE := fun Γ Q => ma Γ fun ra Γ1 => mb Γ1 fun rb Γ2 => ∃ t ns ds ns' ds', dat ra = some (.tup [.bl t, .obj C ns ds]) ∧ dat rb = some (.tup [.bl t, .obj C ns' ds']) ∧
  sd [.obj C ns ds, .obj C ns' ds'] (eqk id Γ2 fun r _ => r = .val (.bl true)) noX ∧ Q (.val (.bl false)) Γ2
section
variable {C : Addr} {Γ Γ1 : Env} {Q : QE} {ma mb : DTE}
def ntk (C : Addr) (sd : DSp) (ra rb : Res) (Γ : Env) (Q : QE) : Prop := ∃ t ns ds ns' ds', dat ra = some (.tup [.bl t, .obj C ns ds]) ∧ dat rb = some (.tup [.bl t, .obj C ns' ds']) ∧ sd [.obj C ns ds, .obj C ns' ds'] (eqk id Γ fun r _ => r = .val (.bl true)) noX ∧ Q (.val (.bl false)) Γ
theorem e_NeTO {sd : DSp} (h : ma Γ fun ra Γ1 => mb Γ1 fun rb Γ2 => ntk C sd ra rb Γ2 Q) : mNeTO C sd ma mb Γ Q := h
end
end DL
/-! the data layer, part 64: sorted(d.items()), d a shared dict of ints, any number of them -/
namespace DL
open PySem PySem.Spec PyProof.Rows L2 LiI
/-! over data -/
def mSortItems (me : DTE) : DTE := fun Γ Q => me Γ fun r Γ1 => ∃ ks : List (Int × Int), r = .val (.dkl (prK ks)) ∧ ks.length ≤ 100000 ∧
  ∀ ms : List (Int × Int), ms.Perm ks → ms.Pairwise (fun x y => ¬ (y.1 < x.1 ∨ (y.1 = x.1 ∧ y.2 < x.2))) → Q (.fr (.lst (ms.map fun p => D.tup [.int p.1, .int p.2]))) Γ1
section
variable {Γ : Env} {Q : QE} {me : DTE}
def sik (r : Res) (Γ : Env) (Q : QE) : Prop := ∃ ks : List (Int × Int), r = .val (.dkl (prK ks)) ∧ ks.length ≤ 100000 ∧ ∀ ms : List (Int × Int), ms.Perm ks → ms.Pairwise (fun x y => ¬ (y.1 < x.1 ∨ (y.1 = x.1 ∧ y.2 < x.2))) → Q (.fr (.lst (ms.map fun p => D.tup [.int p.1, .int p.2]))) Γ
theorem e_SortItems (h : me Γ fun r Γ1 => sik r Γ1 Q) : mSortItems me Γ Q := h
end
end DL
/-! the data layer, part 65: xs.count(k), a list of ints -/
namespace DL
open PySem PySem.Spec PyProof.Rows L2
def isLst : D → Bool
  | .lst _ => true
  | _ => false
def mCount (mo mk : DTE) : DTE := fun Γ Q => mo Γ fun ro Γ1 => (∃ c, rd Γ1 ro = some c ∧ isLst c = true) ∧ mk Γ1 fun rk Γ2 => ∃ (ns : List Int) (k : Int), rd Γ2 ro = some (.lst (ns.map D.int)) ∧ rd Γ2 rk = some (.int k) ∧ Q (.val (.int (ns.count k : Nat))) Γ2
section
variable {X : Cx} {C : Ctx} {to ti : TE} {mo mi : DTE} {o i : Expr} {apos cpos : Pos}
theorem sim_count (ho : SimE C to mo) (hi : SimE C ti mi) : SimE C (tBM C.K "list" (rCntI C.K) to (tCons ti tNil)) (mCount mo mi) := fun Γ O σ H Qd Q R h k => by
  refine ho Γ O σ H _ _ R h fun ro Γ1 vo H1 R1 e1 q1 => ?_
  obtain ⟨⟨c0, hc0, hd0⟩, q1⟩ := q1
  obtain ⟨ds0, rfl⟩ : ∃ ds0, c0 = .lst ds0 := by cases c0 <;> first | exact ⟨_, rfl⟩ | cases hd0
  obtain ⟨a, vs, rfl, hH, -⟩ := (R1.pend.b2 R1.rel hc0).lst
  refine ⟨.inl ⟨rfl, vs, SqL.of hH⟩, ?_⟩
  refine hi Γ1 O σ H1 _ _ R1.rel q1 fun rk Γ2 vk H2 R2 e2 q2 => ?_
  obtain ⟨ns, kk, hc, hk, q⟩ := q2
  obtain ⟨b, us, eb, hH2, rr⟩ := ((R1.pend.mono e2.1).b2 R2.rel hc).lst
  cases eb
  have hus : us = ns.map V.int := rr.ints
  subst hus
  obtain rfl := (R2.pend.b2 R2.rel hk).int
  exact ⟨a, ns, kk, rfl, rfl, SqL.of hH2, k (.val (.int (ns.count kk : Nat))) Γ2 _ H2 ⟨R2.rel, .int _⟩ (.val (L2.Same.trans e1.1 e2.1)) q⟩
theorem de_count (ho : DE X C o to mo) (hi : DE X C i ti mi) {K0 : Fg} (hK0 : X.K = K0 := by rfl) (hK : K0 = C.K := by rfl)
    (hbase : attributeBase o "count" X.env (eval o X.env) = eval o X.env := by rfl)
    (hfew : ((backTo cpos (starEach [i] X.env)).all (fun x => !x.1) && (backToKw cpos (keywordEach [] X.env)).all (fun x => x.1.isSome)
      && decide ([i].length + ([] : List Keyword).length + (if ([] : List Keyword).isEmpty then 0 else 1) < 30)) = true := by rfl)
    (hline : (apos.endLine == cpos.line) = true := by rfl) (hs : starEach [i] X.env = (false, eval i X.env) :: starEach [] X.env := by rfl) (hplain : (backTo cpos (starEach [] X.env)).any (·.1) = false := by rfl) :
    DE X C (.Call (.Attribute o "count" apos) [i] [] cpos) (tBM K0 "list" (rCntI K0) to (tCons ti tNil)) (mCount mo mi) := by
  subst hK0
  exact ⟨pe_bm PySem.F.plainAttrs_list PySem.F.slot_list_count PySem.F.type_list_count mt_lcount ho.pe (pa_cons hi.pe pa_nil hs) hbase hfew hline hs hplain, by rw [hK]; exact sim_count ho.sim hi.sim⟩
end
section
variable {Γ : Env} {Q : QE} {mo mi : DTE}
def cnb (ro rk : Res) (Γ : Env) (Q : QE) : Prop := ∃ (ns : List Int) (k : Int), rd Γ ro = some (.lst (ns.map D.int)) ∧ rd Γ rk = some (.int k) ∧ Q (.val (.int (ns.count k : Nat))) Γ
def cna (ro : Res) (mi : DTE) (Γ : Env) (Q : QE) : Prop := (∃ c, rd Γ ro = some c ∧ isLst c = true) ∧ mi Γ fun rk Γ2 => cnb ro rk Γ2 Q
theorem e_Count (h : mo Γ fun ro Γ1 => cna ro mi Γ1 Q) : mCount mo mi Γ Q := h
theorem e_cna {ro : Res} {c : D} (h1 : rd Γ ro = some c) (h2 : isLst c = true) (h : mi Γ fun rk Γ2 => cnb ro rk Γ2 Q) : cna ro mi Γ Q := ⟨⟨c, h1, h2⟩, h⟩
theorem i_count {ro rk : Res} {ns : List Int} {k : Int} (h1 : rd Γ ro = some (.lst (ns.map D.int))) (h2 : rd Γ rk = some (.int k)) (h : Q (.val (.int (ns.count k : Nat))) Γ) : cnb ro rk Γ Q := ⟨ns, k, h1, h2, h⟩
end
end DL
namespace DL
open PySem PySem.Spec PyProof.Rows L2
/-! data that print well, dicts among them -/
end DL
namespace DL
open PySem PySem.Spec PyProof.Rows L2
/-! a walk over a text -/
def chrs (x : Str) : List D := x.cps.toList.map fun c => D.str ⟨#[c]⟩
def mSeqT (ma : DTE) : DTI := fun Γ Q => ma Γ fun r Γ1 => ∃ x, rd Γ1 r = some (.str x) ∧ Q .no (chrs x) Γ1
def sqt (r : Res) (Γ : Env) (Q : Src → List D → Env → Prop) : Prop := ∃ x, rd Γ r = some (.str x) ∧ Q .no (chrs x) Γ
theorem w_SeqT {Γ : Env} {ma : DTE} {Q : Src → List D → Env → Prop} (h : ma Γ fun r Γ1 => sqt r Γ1 Q) : mSeqT ma Γ Q := h
theorem w_seqt {Γ : Env} {r : Res} {x : Str} {Q : Src → List D → Env → Prop} (h1 : rd Γ r = some (.str x)) (h : Q .no (chrs x) Γ) : sqt r Γ Q := ⟨x, h1, h⟩
/-! steps of texts -/
theorem i_lenS {x : Str} {Q : Res → Prop} (h1 : x.length ≤ 100000) (h : Q (.val (.int x.length))) : lenD [.str x] Q := ⟨h1, h⟩
theorem i_inSS {c : Nat} {x : Str} {Q : Res → Prop} (h : Q (.val (.bl (decide (c ∈ x.cps.toList))))) : inD (.str ⟨#[c]⟩) (.str x) Q := ⟨c, rfl, h⟩
end DL
namespace DL
open PySem PySem.Spec PyProof.Rows L2
/-! isinstance(x, (A, B)), built-in classes -/
def mIsiT (Ts : List String) (ma : DTE) : DTE := fun Γ Q => ma Γ fun r Γ1 => ∃ d, rd Γ1 r = some d ∧ (tyN d).isSome = true ∧ Q (.val (.bl (Ts.any fun T => isTy T d))) Γ1
section
variable {Γ Γ1 : Env} {ma : DTE} {Q : QE}
def isuk (Ts : List String) (r : Res) (Γ : Env) (Q : QE) : Prop := ∃ d, rd Γ r = some d ∧ (tyN d).isSome = true ∧ Q (.val (.bl (Ts.any fun T => isTy T d))) Γ
theorem e_IsiTu {Ts : List String} (h : ma Γ fun r Γ1 => isuk Ts r Γ1 Q) : mIsiT Ts ma Γ Q := h
theorem e_isiTuT {Ts : List String} {r : Res} {d : D} (h1 : rd Γ r = some d) (h2 : (tyN d).isSome = true) (h3 : (Ts.any fun T => isTy T d) = true) (h : Q (.val (.bl true)) Γ) : isuk Ts r Γ Q := ⟨d, h1, h2, by rw [h3]; exact h⟩
theorem e_isiTuF {Ts : List String} {r : Res} {d : D} (h1 : rd Γ r = some d) (h2 : (tyN d).isSome = true) (h3 : (Ts.any fun T => isTy T d) = false) (h : Q (.val (.bl false)) Γ) : isuk Ts r Γ Q := ⟨d, h1, h2, by rw [h3]; exact h⟩
end
theorem e_d1s {Γ : Env} {Q : QE} {rk rv : Res} {x : Str} {dv : D} (h1 : rd Γ rk = some (.str x)) (h2 : dat rv = some dv) (h : Q (.fr (.dic [(.inr x, dv)])) Γ) : d1k rk rv Γ Q := ⟨_, _, dv, h1, rfl, h2, h⟩
/-! a list compared with [] (whatever it holds) -/
def empD (F : Bool → Bool) : D → D → (Res → Prop) → Prop
  | .lst ds, .lst [], Q => Q (.val (.bl (F ds.isEmpty)))
  | .scr ds, .lst [], Q => Q (.val (.bl (F ds.isEmpty)))
  | _, _, _ => False
theorem i_eqEmp {ds : List D} {Q : Res → Prop} (h : Q (.val (.bl ds.isEmpty))) : empD id (.lst ds) (.lst []) Q := h
theorem i_neEmp {ds : List D} {Q : Res → Prop} (h : Q (.val (.bl (!ds.isEmpty)))) : empD (fun b => !b) (.lst ds) (.lst []) Q := h
/-! a tuple times a number -/
end DL
/-! the data layer, part 69: {tuple: v}; dicts whose keys are tuples of ints -/
namespace DL
open PySem PySem.Spec PyProof.Rows L2
def mDict1T (mk mv : DTE) : DTE := fun Γ Q => mk Γ fun rk Γ1 => mv Γ1 fun rv Γ2 => ∃ ds k dv, rd Γ2 rk = some (.tup ds) ∧ keysO ds = some k ∧ dat rv = some dv ∧ Q (.fr (.dit [(k, dv)])) Γ2
/-! ### dicts whose keys are tuples of ints -/
def prT (l : List (List Int × D)) : List (List L2.Key × D) := l.map fun p => (p.1.map Sum.inl, p.2)
theorem keysO_ints : ∀ l : List Int, keysO (l.map D.int) = some (l.map Sum.inl)
  | [] => rfl
  | x :: l => by rw [List.map_cons, keysO, keysO_ints l]; rfl
section
variable {Γ : Env} {Q : QE}
def d1kT (rk rv : Res) (Γ : Env) (Q : QE) : Prop := ∃ ds k dv, rd Γ rk = some (.tup ds) ∧ keysO ds = some k ∧ dat rv = some dv ∧ Q (.fr (.dit [(k, dv)])) Γ
theorem e_Dict1T {mk mv : DTE} (h : mk Γ fun rk Γ1 => mv Γ1 fun rv Γ2 => d1kT rk rv Γ2 Q) : mDict1T mk mv Γ Q := h
theorem e_d1T {rk rv : Res} {l : List Int} {dv : D} (h1 : rd Γ rk = some (.tup (l.map D.int))) (h2 : dat rv = some dv) (h : Q (.fr (.dit (prT [(l, dv)]))) Γ) : d1kT rk rv Γ Q := ⟨_, _, dv, h1, keysO_ints l, h2, h⟩
end
end DL
namespace DL
open PySem PySem.Spec PyProof.Rows L2
/-! own == and != with a thing of any built-in kind -/
/-- x == y by the own == of x's class, y of any built-in kind -/
def mEqX (C : Addr) (sd : DSp) (F : Bool → Bool) (ma mb : DTE) : DTE := fun Γ Q => ma Γ fun ra Γ1 => mb Γ1 fun rb Γ2 => ∃ ns ds d, dat ra = some (.obj C ns ds) ∧ dat rb = some d ∧ (tyN d).isSome = true ∧ sd [.obj C ns ds, d] (eqk F Γ2 Q) noX
section
variable {X : Cx} {C : Ctx} {C0 : Addr} {k : Nat} {g : Addr} {fd : FuncData} {ps : List Str} {sd : DSp} {ta tb : TE} {ma mb : DTE} {a b : Expr} {pos : Pos} {E : XK}
variable {Γ : Env} {Q : QE} {r r2 : Res} {ns : List Str} {ds : List D}
def eoxk (C : Addr) (sd : DSp) (F : Bool → Bool) (ra rb : Res) (Γ2 : Env) (Q : QE) : Prop := ∃ ns ds d, dat ra = some (.obj C ns ds) ∧ dat rb = some d ∧ (tyN d).isSome = true ∧ sd [.obj C ns ds, d] (eqk F Γ2 Q) noX
theorem e_EqX {F : Bool → Bool} (h : ma Γ fun ra Γ1 => mb Γ1 fun rb Γ2 => eoxk C0 sd F ra rb Γ2 Q) : mEqX C0 sd F ma mb Γ Q := h
theorem e_eqX {F : Bool → Bool} {d : D} (h1 : dat r = some (.obj C0 ns ds)) (h2 : dat r2 = some d) (h3 : (tyN d).isSome = true) (h : sd [.obj C0 ns ds, d] (eqk F Γ Q) noX) : eoxk C0 sd F r r2 Γ Q := ⟨_, _, _, h1, h2, h3, h⟩
end
end DL
namespace DL
open PySem PySem.Spec PyProof.Rows L2
/-! x in a list of trees -/
end DL
namespace DL
open PySem PySem.Spec PyProof.Rows L2
/-! xs.index(x) of a list -/
/-- j is the first place of an equal one -/
def IdxAt (ds : List D) (x : D) (j : Nat) : Prop := (∃ z, ds[j]? = some z ∧ eqv z x = true) ∧ ∀ (m : Nat) (z : D), m < j → ds[m]? = some z → eqv z x = false
def mIndex (mo mk : DTE) : DTE := fun Γ Q => mo Γ fun ro Γ1 => (∃ c, rd Γ1 ro = some c ∧ isLst c = true) ∧ mk Γ1 fun rk Γ2 => ∃ (ds : List D) (x : D) (j : Nat), rd Γ2 ro = some (.lst ds) ∧ rd Γ2 rk = some x ∧ okE (.lst ds) = true ∧ okE x = true ∧ IdxAt ds x j ∧ Q (.val (.int (j : Nat))) Γ2
section
variable {Γ : Env} {Q : QE} {mo mi : DTE}
def idb (ro rk : Res) (Γ : Env) (Q : QE) : Prop := ∃ (ds : List D) (x : D) (j : Nat), rd Γ ro = some (.lst ds) ∧ rd Γ rk = some x ∧ okE (.lst ds) = true ∧ okE x = true ∧ IdxAt ds x j ∧ Q (.val (.int (j : Nat))) Γ
def ida (ro : Res) (mi : DTE) (Γ : Env) (Q : QE) : Prop := (∃ c, rd Γ ro = some c ∧ isLst c = true) ∧ mi Γ fun rk Γ2 => idb ro rk Γ2 Q
theorem e_Index (h : mo Γ fun ro Γ1 => ida ro mi Γ1 Q) : mIndex mo mi Γ Q := h
theorem e_ida {ro : Res} {c : D} (h1 : rd Γ ro = some c) (h2 : isLst c = true) (h : mi Γ fun rk Γ2 => idb ro rk Γ2 Q) : ida ro mi Γ Q := ⟨⟨c, h1, h2⟩, h⟩
end
end DL
/-! x[:] = a list, x a place -/
namespace L2
open PySem PySem.Spec PyProof.Rows
end L2
namespace DL
open PySem PySem.Spec PyProof.Rows L2
section
variable {X : Cx} {C : Ctx} {pos p2 : Pos} {o : Expr} {to : TE} {mo : DTE}
def mgAll (mo : DTE) : DTG := fun d Γ Q => mo Γ fun ro Γ1 => ∃ i xs ys, ro = .pl i ∧ cont Γ1[i]? = some (.lst xs) ∧ d = .lst ys ∧ xs.length + ys.length ≤ 100000 ∧ ∃ Γ4, setC Γ1 i (.lst ys) = some Γ4 ∧ Q Γ4
end
def alck (d : D) (ro : Res) (Γ : Env) (Q : Env → Prop) : Prop := ∃ i xs ys, ro = .pl i ∧ cont Γ[i]? = some (.lst xs) ∧ d = .lst ys ∧ xs.length + ys.length ≤ 100000 ∧ ∃ Γ4, setC Γ i (.lst ys) = some Γ4 ∧ Q Γ4
theorem g_All {mo : DTE} {d : D} {Γ : Env} {Q : Env → Prop} (h : mo Γ fun ro Γ1 => alck d ro Γ1 Q) : mgAll mo d Γ Q := h
theorem g_all {xs ys : List D} {i : Nat} {Γ Γ4 Γ5 : Env} {Q : Env → Prop} (h1 : cont Γ[i]? = some (.lst xs)) (hz : xs.length + ys.length ≤ 100000) (hs : setC Γ i (.lst ys) = some Γ4) (h4 : Γ4 = Γ5) (h : Q Γ5) : alck (.lst ys) (.pl i) Γ Q := ⟨i, xs, ys, rfl, h1, rfl, hz, Γ4, hs, by rw [h4]; exact h⟩
end DL
/-! isinstance(e, (A, B)) of a caught exception -/
namespace DL
open PySem PySem.Spec PyProof.Rows L2
def lkAny (n : Str) : List (List (Str × Bool)) → Option Bool
  | [] => some false
  | t :: ts => match t.lookup n, lkAny n ts with
    | some b, some c => some (b || c)
    | _, _ => none
def mXisT (n : Str) (a : Addr) (tabs : List (List (Str × Bool))) (mo : DTE) : DTE := fun Γ Q => mo Γ fun r Γ1 => r = .val (.cls a) ∧ ∃ b, lkAny n tabs = some b ∧ Q (.val (.bl b)) Γ1
section
variable {X : Cx} {C : Ctx} {cls : Value} {d : Option Addr} {n : Str} {fvs : List (Str × V)} {fds : List (Str × D)} {a : Addr} {oe : Obj} {pn : List (Addr × Obj)} {to : TE} {mo : DTE} {o : Expr} {p pos tpos : Pos} {es : List Expr} {n1 : Nat}
variable {Γ : Env} {Q : QE} {tabs : List (List (Str × Bool))} {b : Bool}
def xikT (n : Str) (a : Addr) (tabs : List (List (Str × Bool))) (r : Res) (Γ1 : Env) (Q : QE) : Prop := r = .val (.cls a) ∧ ∃ b, lkAny n tabs = some b ∧ Q (.val (.bl b)) Γ1
theorem e_XisT (h : mo Γ fun r Γ1 => xikT n a tabs r Γ1 Q) : mXisT n a tabs mo Γ Q := h
theorem e_xisT (h1 : lkAny n tabs = some b) (h : Q (.val (.bl b)) Γ) : xikT n a tabs (.val (.cls a)) Γ Q := ⟨rfl, _, h1, h⟩
theorem e_xisTT (h1 : lkAny n tabs = some true) (h : Q (.val (.bl true)) Γ) : xikT n a tabs (.val (.cls a)) Γ Q := e_xisT h1 h
theorem e_xisTF (h1 : lkAny n tabs = some false) (h : Q (.val (.bl false)) Γ) : xikT n a tabs (.val (.cls a)) Γ Q := e_xisT h1 h
end
theorem e_eqkI {Γ : Env} {Q : QE} {z : Bool} (h : Q (.val (.bl z)) Γ) : eqk id Γ Q false (.bl z) [] := eqk_in h
theorem e_eqkF {Γ : Env} {Q : QE} (h : Q (.val (.bl true)) Γ) : eqk (fun b => !b) Γ Q false (.bl false) [] := eqk_in h
theorem e_eqkT {Γ : Env} {Q : QE} (h : Q (.val (.bl false)) Γ) : eqk (fun b => !b) Γ Q false (.bl true) [] := eqk_in h
end DL
namespace DL
open PySem PySem.Spec PyProof.Rows L2
/-! range(i, j, c) -/
def rngC (lo c : Int) (n : Nat) : List D := (List.range n).map fun i => D.int (lo + (i : Nat) * c)
def mRng3 (ma : DTA) : DTI := fun Γ Q => ma Γ fun rs Γ1 => ∃ (i j c : Int) (n : Nat), rs = [.val (.int i), .val (.int j), .val (.int c)] ∧ RgC i j c n ∧ Q .no (rngC i c n) Γ1
section
variable {Γ : Env} {ma : DTA}
def rg3k (rs : List Res) (Γ1 : Env) (Q : Src → List D → Env → Prop) : Prop := ∃ (i j c : Int) (n : Nat), rs = [.val (.int i), .val (.int j), .val (.int c)] ∧ RgC i j c n ∧ Q .no (rngC i c n) Γ1
theorem w_Rng3 {Q : Src → List D → Env → Prop} (h : ma Γ fun rs Γ1 => rg3k rs Γ1 Q) : mRng3 ma Γ Q := h
theorem w_down {Q : Src → List D → Env → Prop} {i j : Int} (h1 : -(2 ^ 62) ≤ i ∧ i < 2 ^ 62 ∧ -(2 ^ 62) ≤ j ∧ j < 2 ^ 62) (h : Q .no (rngC i (-1) (i - j).toNat) Γ) : rg3k [.val (.int i), .val (.int j), .val (.int (-1))] Γ Q := ⟨i, j, -1, _, rfl, RgC.neg h1.1 h1.2.1 h1.2.2.1 h1.2.2.2, h⟩
end
end DL
/-! tuple + tuple; x or y, x and y of any values by their truth -/
namespace DL
open PySem PySem.Spec PyProof.Rows L2
section
variable {X : Cx} {K : Fg} {C : Ctx} {ta tb : TE} {ma mb : DTE} {a b : Expr} {pos : Pos} {Γ : Env}
def catTD : D → D → (Res → Prop) → Prop
  | .tup xs, .tup ys, Q => xs.length + ys.length ≤ 100000 ∧ Q (.val (.tup (xs ++ ys)))
  | _, _, _ => False
def truthD : D → Option Bool
  | .non => some false
  | .bl b => some b
  | .int i => some (i != 0)
  | .tup ds => some (!ds.isEmpty)
  | _ => none
def mOrT (ma mb : DTE) : DTE := fun Γ Q => ma Γ fun r Γ1 => ∃ d b, r = .val d ∧ truthD d = some b ∧ if b = true then Q (.val d) Γ1 else mb Γ1 Q
/-! evaluator -/
theorem i_catA {xs ys : List D} {Q : Res → Prop} (h2 : xs.length + ys.length ≤ 100000) (h : Q (.val (.tup (xs ++ ys)))) : catTD (.tup xs) (.tup ys) Q := ⟨h2, h⟩
def ort (r : Res) (Γ : Env) (mb : DTE) (Q : QE) : Prop := ∃ d b, r = .val d ∧ truthD d = some b ∧ if b = true then Q (.val d) Γ else mb Γ Q
theorem e_OrT {Q : QE} (h : ma Γ fun r Γ1 => ort r Γ1 mb Q) : mOrT ma mb Γ Q := h
end
end DL
/-! the data layer, part 77: a pair whose second part is a new list is handed back, and that list is changed -/
namespace DL
open PySem PySem.Spec PyProof.Rows L2 RT
/-! ### return a, b; b a new list -/
def mRetNP (m0 m1 : DTE) : DTS := fun D Γ => m0 Γ fun r0 Γ1 => m1 Γ1 fun r1 Γ2 => ∃ a ds Γ3, dat r0 = some a ∧ ((r1 = .fr (.lst ds) ∧ Γ3 = Γ2) ∨ ∃ i, r1 = .pl i ∧ Γ2[i]? = some (.ow (.lst ds)) ∧ Γ3 = Γ2.set i (.sh (.lst ds))) ∧ D.rt (.np a ds) Γ3
/-! ### name = f(..) that hands such a pair back; looks; name[1].append(..) -/
/-- what the changes ask: an argument that is there -/
def mKill (n : Nat) (nx : Env → Prop) (Γk : Env) (ma : DTA) : Env → Prop := fun Γ => Γ.length = n ∧ ma Γ fun rs Γ1 => (∃ d, dats rs = some [d]) ∧ nx Γk
def mNp (i : Nat) (mask : List Bool) (me : DTE) (mm : DTS) (mt : DTT) (ma : DTA) : DTS := fun D Γ => freeE mask Γ = true ∧ mask[i]? = some true ∧ me (boxE mask Γ) fun r Γ1 => Γ1 = boxE mask Γ ∧ ((∃ a ds, r = .np a ds ∧ ds.length < 100000 ∧
  mm ⟨fun Γ3 => mt Γ3 fun b Γ4 => if b = true then mKill Γ.length D.nx (killE mask Γ) ma Γ4 else Γ4.length = Γ.length ∧ D.nx (killE mask Γ), fun r Γ3 => Γ3.length = Γ.length ∧ ∃ d, r = .val d ∧ scal d = true ∧ D.rt (.val d) (killE mask Γ), fun _ => False, fun _ => False⟩ ((boxE mask Γ).set i (.bo (.tup [a, .lst ds])))) ∨ ∃ d, r = .val d ∧
  mm ⟨fun Γ3 => mt Γ3 fun b Γ4 => b = false ∧ Γ4.length = Γ.length ∧ D.nx (killE mask Γ), fun r Γ3 => Γ3.length = Γ.length ∧ ∃ d, r = .val d ∧ scal d = true ∧ D.rt (.val d) (killE mask Γ), fun _ => False, fun _ => False⟩ ((boxE mask Γ).set i (.bo d)))
/-! evaluator -/
section
variable {Γ Γ' Γ2 Γk : Env} {nx bk ct : Env → Prop} {rt : Res → Env → Prop} {d a : D} {ds : List D} {me m0 m1 : DTE} {mm : DTS} {mt : DTT} {ma : DTA} {i n : Nat} {mask : List Bool} {rs : List Res} {r0 r1 : Res}
def npn (n : Nat) (nx : Env → Prop) (Γk : Env) (mt : DTT) (ma : DTA) : Env → Prop := fun Γ3 => mt Γ3 fun b Γ4 => if b = true then mKill n nx Γk ma Γ4 else Γ4.length = n ∧ nx Γk
def npv (n : Nat) (p : Prop) (mt : DTT) : Env → Prop := fun Γ3 => mt Γ3 fun b Γ4 => b = false ∧ Γ4.length = n ∧ p
def npk (i : Nat) (mask : List Bool) (mm : DTS) (mt : DTT) (ma : DTA) (nx : Env → Prop) (rt : Res → Env → Prop) (Γ : Env) (r : Res) (Γ1 : Env) : Prop := Γ1 = boxE mask Γ ∧ ((∃ a ds, r = .np a ds ∧ ds.length < 100000 ∧
  mm ⟨npn Γ.length nx (killE mask Γ) mt ma, bxr Γ rt (killE mask Γ), fun _ => False, fun _ => False⟩ ((boxE mask Γ).set i (.bo (.tup [a, .lst ds])))) ∨ ∃ d, r = .val d ∧ mm ⟨npv Γ.length (nx (killE mask Γ)) mt, bxr Γ rt (killE mask Γ), fun _ => False, fun _ => False⟩ ((boxE mask Γ).set i (.bo d)))
theorem s_Np (h1 : freeE mask Γ = true) (h2 : mask[i]? = some true) (h3 : boxE mask Γ = Γ') (h : me Γ' fun r Γ1 => npk i mask mm mt ma nx rt Γ r Γ1) : mNp i mask me mm mt ma (.mk nx rt bk ct) Γ := by subst h3; exact ⟨h1, h2, h⟩
theorem s_npk (h3 : boxE mask Γ = Γ') (h5 : killE mask Γ = Γk) (h6 : Γ'.set i (.bo (.tup [a, .lst ds])) = Γ2) (h0 : ds.length < 100000) (h : mm (.mk (npn Γ.length nx Γk mt ma) (bxr Γ rt Γk) (fun _ => False) (fun _ => False)) Γ2) : npk i mask mm mt ma nx rt Γ (.np a ds) Γ' := by
  subst h3; subst h5; subst h6
  exact ⟨rfl, .inl ⟨a, ds, rfl, h0, h⟩⟩
theorem s_npkV (h3 : boxE mask Γ = Γ') (h5 : killE mask Γ = Γk) (h6 : Γ'.set i (.bo d) = Γ2) (h : mm (.mk (npv Γ.length (nx Γk) mt) (bxr Γ rt Γk) (fun _ => False) (fun _ => False)) Γ2) : npk i mask mm mt ma nx rt Γ (.val d) Γ' := by
  subst h3; subst h5; subst h6
  exact ⟨rfl, .inr ⟨d, rfl, h⟩⟩
def npw (n : Nat) (p : Prop) (b : Bool) (Γ : Env) : Prop := b = false ∧ Γ.length = n ∧ p
theorem s_npv {p : Prop} (h : mt Γ fun b Γ4 => npw n p b Γ4) : npv n p mt Γ := h
theorem s_npw {p : Prop} {b : Bool} (h0 : b = false) (h1 : Γ.length = n) (h : p) : npw n p b Γ := ⟨h0, h1, h⟩
def npe (n : Nat) (p : Prop) (Γ : Env) : Prop := Γ.length = n ∧ p
theorem s_npn (h : mt Γ fun b Γ4 => if b = true then mKill n nx Γk ma Γ4 else npe n (nx Γk) Γ4) : npn n nx Γk mt ma Γ := h
def klk (rs : List Res) (p : Prop) : Prop := (∃ d, dats rs = some [d]) ∧ p
theorem s_kill (h1 : Γ.length = n) (h : ma Γ fun rs _ => klk rs (nx Γk)) : mKill n nx Γk ma Γ := ⟨h1, h⟩
theorem s_klk {p : Prop} (h1 : dats rs = some [d]) (h : p) : klk rs p := ⟨⟨d, h1⟩, h⟩
theorem s_npe {p : Prop} (h1 : Γ.length = n) (h : p) : npe n p Γ := ⟨h1, h⟩
def rnp (rt : Res → Env → Prop) (r0 r1 : Res) (Γ2 : Env) : Prop := ∃ a ds Γ3, dat r0 = some a ∧ ((r1 = .fr (.lst ds) ∧ Γ3 = Γ2) ∨ ∃ i, r1 = .pl i ∧ Γ2[i]? = some (.ow (.lst ds)) ∧ Γ3 = Γ2.set i (.sh (.lst ds))) ∧ rt (.np a ds) Γ3
theorem s_RetNP (h : m0 Γ fun r0 Γ1 => m1 Γ1 fun r1 Γ2 => rnp rt r0 r1 Γ2) : mRetNP m0 m1 (.mk nx rt bk ct) Γ := h
theorem s_rnpF (h1 : dat r0 = some a) (h : rt (.np a ds) Γ) : rnp rt r0 (.fr (.lst ds)) Γ := ⟨a, ds, Γ, h1, .inl ⟨rfl, rfl⟩, h⟩
theorem s_rnpP (h1 : dat r0 = some a) (h2 : Γ[i]? = some (.ow (.lst ds))) (h3 : Γ.set i (.sh (.lst ds)) = Γ') (h : rt (.np a ds) Γ') : rnp rt r0 (.pl i) Γ := ⟨a, ds, Γ', h1, .inr ⟨i, rfl, h2, h3.symm⟩, h⟩
theorem d_np {ms : List Md} {Qd : Bool → D → List D → Prop} {es : List D} (h1 : iosD ms Γ = es) (h : Qd true (.tup [a, .lst ds]) es) : rtD ms Qd (.np a ds) Γ := by subst h1; exact h
theorem bag_frD {b : D} (h : BagD b) : frOf b = .fr b := by
  obtain ⟨_, _, _, _, rfl, -⟩ := h
  rfl
end
end DL
/-! the data layer, part 78: sorted(d), d a dict whose keys are rows of ints -/
namespace DL
open PySem PySem.Spec PyProof.Rows L2
/-- v is a tuple of these ints in the heap -/
def IsRow (h : Heap) (v : Value) (xs : List Int) : Prop := ∃ a o its n, v = .ref a ∧ h.get? a = some o ∧ o.cls = .type "tuple" ∧ o.data = .seq (List.toArray its) n ∧ IntsAre its xs
theorem IsRow.keeps {h h' : Heap} {v : Value} {xs : List Int} (p : IsRow h v xs) (k : ∀ b o, h.get? b = some o → o.cls = .type "tuple" → h'.get? b = some o) : IsRow h' v xs := by
  obtain ⟨a, o, its, n, e, ho, hc, hd, hi⟩ := p
  exact ⟨a, o, its, n, e, k _ _ ho hc, hc, hd, hi⟩
end DL
namespace DL
open PySem PySem.Spec PyProof.Rows L2
theorem ints_of_vals : ∀ {ns : List Int} {us : List Value}, Vals (ns.map V.int) us → IntsAre us ns
  | [], _, .nil => .nil
  | n :: ns, _, .cons h t => by
    obtain ⟨k, rfl⟩ := h
    exact .cons n k (ints_of_vals t)
end DL
namespace DL
open PySem PySem.Spec PyProof.Rows L2
end DL
/-! the data layer, part 79: own exceptions without fields; an own + that may raise -/
namespace DL
open PySem PySem.Spec PyProof.Rows L2
def mRaise0 (Wd : Dwx) (n : Str) : DTS := fun _ Γ => Wd n [] Γ
theorem s_Raise0 {Wd : Dwx} {n : Str} {nx bk ct : Env → Prop} {rt : Res → Env → Prop} {Γ : Env} (h : Wd n [] Γ) : mRaise0 Wd n (.mk nx rt bk ct) Γ := h
/-! ### an own + that may raise -/
end DL
/-! the data layer, part 80: walks over dicts whose keys are tuples -/
namespace DL
open PySem PySem.Spec PyProof.Rows L2
/-! ### over data -/
def keyT (k : List L2.Key) : D := .tup (k.map keyD)
def itemT (p : List L2.Key × D) : D := .tup [keyT p.1, p.2]
def mKeysWT (m : DTE) : DTI := fun Γ Q => m Γ fun r Γ1 => ∃ kvs, r = .val (.dtl kvs) ∧ ∀ o vs, Q (.v2 (.pnT o vs) (.dtl kvs)) (kvs.map fun p => keyT p.1) Γ1
def mItemsWT (m : DTE) : DTI := fun Γ Q => m Γ fun r Γ1 => ∃ kvs, r = .val (.dtl kvs) ∧ ∀ o vs, Q (.v2 (.pnT o vs) (.dtl kvs)) (kvs.map itemT) Γ1
def kwT (f : List L2.Key × D → D) (r : Res) (Γ : Env) (Q : Src → List D → Env → Prop) : Prop := ∃ kvs, r = .val (.dtl kvs) ∧ ∀ o vs, Q (.v2 (.pnT o vs) (.dtl kvs)) (kvs.map f) Γ
theorem w_KeysWT {mo : DTE} {Γ : Env} {Q : Src → List D → Env → Prop} (h : mo Γ fun r Γ1 => kwT (fun p => keyT p.1) r Γ1 Q) : mKeysWT mo Γ Q := h
theorem w_ItemsWT {mo : DTE} {Γ : Env} {Q : Src → List D → Env → Prop} (h : mo Γ fun r Γ1 => kwT itemT r Γ1 Q) : mItemsWT mo Γ Q := h
theorem w_kwT {f : List L2.Key × D → D} {Γ : Env} {Q : Src → List D → Env → Prop} {kvs : List (List L2.Key × D)} (h : ∀ o vs, Q (.v2 (.pnT o vs) (.dtl kvs)) (kvs.map f) Γ) : kwT f (.val (.dtl kvs)) Γ Q := ⟨kvs, rfl, h⟩
end DL
/-! the data layer, part 81: len(set(l)), l a list of ints -/
namespace DL
open PySem PySem.Spec PyProof.Rows L2
/-- how many different ones -/
def difN (ns : List Int) : Nat := (firstMet (fun i => ns.getD i 0) ns.length).length
theorem difN_le (ns : List Int) : difN ns ≤ ns.length := firstMet_length_le _ _
def mLenSet (ma : DTE) : DTE := fun Γ Q => ma Γ fun r Γ1 => ∃ ds ns, rd Γ1 r = some (.lst ds) ∧ ints? ds = some ns ∧ difN ns < 4000 ∧ Q (.val (.int (difN ns))) Γ1
def lsz (r : Res) (Γ : Env) (Q : QE) : Prop := ∃ ds ns, rd Γ r = some (.lst ds) ∧ ints? ds = some ns ∧ difN ns < 4000 ∧ Q (.val (.int (difN ns))) Γ
theorem e_LenSet {ma : DTE} {Γ : Env} {Q : QE} (h : ma Γ fun r Γ1 => lsz r Γ1 Q) : mLenSet ma Γ Q := h
theorem e_lenset {r : Res} {Γ : Env} {Q : QE} {l : List Int} (h1 : rd Γ r = some (.lst (l.map D.int))) (h2 : difN l < 4000) (h : Q (.val (.int (difN l))) Γ) : lsz r Γ Q := ⟨_, l, h1, ints?_map l, h2, h⟩
end DL
/-! the data layer, part 82: x in a tuple of flat things -/
namespace DL
open PySem PySem.Spec PyProof.Rows L2
def flV : D → Option V
  | .non => some .non
  | .bl b => some (.bl b)
  | .int i => some (.int i)
  | .str s => some (.str s)
  | _ => none
def eqF (x y : D) : Bool := match flV x, flV y with
  | some a, some b => eqV a b
  | _, _ => false
def inFD : D → D → (Res → Prop) → Prop
  | x, .tup ds, Q => (flV x).isSome = true ∧ (ds.all fun z => (flV z).isSome) = true ∧ Q (.val (.bl (ds.any fun z => eqF z x)))
  | _, _, _ => False
def ninFD (x y : D) (Q : Res → Prop) : Prop := inFD x y fun r => ∃ b, r = .val (.bl b) ∧ Q (.val (.bl (!b)))
theorem i_inF {x : D} {ds : List D} {b : Bool} {Q : Res → Prop} (h1 : (flV x).isSome = true) (h2 : (ds.all fun z => (flV z).isSome) = true) (h3 : (ds.any fun z => eqF z x) = b) (h : Q (.val (.bl b))) : inFD x (.tup ds) Q := ⟨h1, h2, by rw [h3]; exact h⟩
theorem i_ninF {x : D} {ds : List D} {b : Bool} {Q : Res → Prop} (h1 : (flV x).isSome = true) (h2 : (ds.all fun z => (flV z).isSome) = true) (h3 : (ds.any fun z => eqF z x) = b) (h : Q (.val (.bl (!b)))) : ninFD x (.tup ds) Q := ⟨h1, h2, b, h3 ▸ rfl, h⟩
/-! ### texts that are known -/
theorem i_eqC {x y : Str} {b : Bool} {Q : Res → Prop} (h1 : okE (.str x) = true) (h2 : okE (.str y) = true) (h3 : (x == y) = b) (h : Q (.val (.bl b))) : eqD (.str x) (.str y) Q := ⟨h1, h2, by rw [eqv_ssS, h3]; exact h⟩
theorem i_neC {x y : Str} {b : Bool} {Q : Res → Prop} (h1 : okE (.str x) = true) (h2 : okE (.str y) = true) (h3 : (x == y) = b) (h : Q (.val (.bl (!b)))) : neD (.str x) (.str y) Q := ⟨h1, h2, by rw [eqv_ssS, h3]; exact h⟩
end DL
/-! the data layer, part 83: pinned slots; a table: an own list of own lists of ints -/
namespace DL
open PySem L2
/-! ### tables -/
end DL
/-! the data layer, part 84: x in a tuple of trees -/
namespace DL
open PySem PySem.Spec PyProof.Rows L2
/-! a tuple compared with () (whatever it holds) -/
def emtD : D → D → (Res → Prop) → Prop
  | .tup ds, .tup [], Q => Q (.val (.bl ds.isEmpty))
  | _, _, _ => False
theorem i_eqEmT {ds : List D} {Q : Res → Prop} (h : Q (.val (.bl ds.isEmpty))) : emtD (.tup ds) (.tup []) Q := h
end DL
/-! the data layer, part 85: str(list) -/
namespace DL
open PySem PySem.Spec PyProof.Rows L2
def strLD : List D → (Res → Prop) → Prop
  | [.lst ds], Q => okR (.lst ds) = true ∧ Q (.val (.str (toPy (.lst ds)).shown))
  | _, _ => False
def rStrL (K : Fg) : List V → Hp → VK → Prop := fun xs H Q => ∃ x ds, xs = [x] ∧ Dp K H x (.list ds) ∧ ((PyData.list ds).showable = true ∧ (PyData.list ds).depth ≤ 50 ∧ (PyData.list ds).shown.length ≤ 1000000 ∧ (PyData.list ds).hasDict = false) ∧ Q (.str (PyData.list ds).shown) H
theorem call_strL {X : Cx} (hg : X.A.guards = some []) (hu : X.A.units + 100 < cLine) : CallR X (.type "str") (rStrL X.K) := by
  intro pins s σ H xs us Q I r h
  have big : (1000000 : Nat) ≤ sizeLine := by decide
  obtain ⟨x, d, rfl, hd, ⟨h1, h2, h3, h4⟩, q⟩ := h
  obtain ⟨u, rfl, rx⟩ := vals1 r
  cases hd with
  | lst hs ha =>
    obtain ⟨as, hr⟩ := Dp.reads I _ _ u (.lst hs ha) rx
    cases rx
    exact str_of_reads hr h1 (fun z => by rw [h4] at z; cases z) hg (by omega) (fun _ _ e => e) (fun h' u tk kk => ⟨.str _, H, I.kept kk, ⟨_, rfl⟩, q⟩) (Nat.le_trans h3 big)
theorem sim_strL {K : Fg} : SimRC K (rStrL K) strLD := fun O H vs ds Qd Q h q k => by
  unfold strLD at q
  split at q
  · rename_i d
    obtain ⟨v, rfl, hb⟩ := h.one
    obtain ⟨ho, q⟩ := q
    unfold okR at ho
    simp only [Bool.and_eq_true, decide_eq_true_eq, Bool.not_eq_true'] at ho
    have hd := hb.dp ho.1
    rw [toPy] at hd ho q
    exact ⟨v, _, rfl, hd, ⟨ho.2.1.1.1, ho.2.1.1.2, ho.2.1.2, ho.2.2⟩, k.val _ _ (.str _) q⟩
  · exact q.elim
theorem de_strL {X : Cx} {C : Ctx} {e : Expr} {p pos : Pos} {tr : TA} {mr : DTA} (hgu : X.A.guards = some []) (hu : X.A.units + 100 < cLine) (hg : Gl X "str") (hm : X.mg "str" = none) (ha : DA X C [e] tr mr) {K0 : Fg} (hK0 : X.K = K0 := by rfl) (hK : K0 = C.K := by rfl) (he : starEach [e] X.env = (false, eval e X.env) :: starEach [] X.env := by rfl) :
    DE X C (.Call (.Name "str" p) [e] [] pos) (tCB (rStrL K0) tr) (mCB strLD mr) := by
  subst hK0
  exact (de_ct (call_strL hgu hu) (by rw [hK]; exact sim_strL) hg hm (by decide +kernel) ha (he := he) (hpl := rfl))
theorem i_strL {ds : List D} {Q : Res → Prop} (h1 : okR (.lst ds) = true) (h : Q (.val (.str (toPy (.lst ds)).shown))) : strLD [.lst ds] Q := ⟨h1, h⟩
end DL
namespace LW
open PySem PySem.Spec PyProof.Rows L2 DL
/-! printed by wip/gen.py: the defs of the text, what their bodies read as, and that they keep it -/
def topS (i : Nat) : Stmt := PySem.Challenge.pw_ringcalls_k56_whole_nobody_slower_than_w.main.body.getD i (.Pass ⟨0, 0, 0, 0⟩)
abbrev s_is_integer : Stmt := topS 3
theorem sc_is_integer : FnScope ["thing"] ["thing"] (defScope s_is_integer) := ⟨rfl, rfl, rfl, by decide +kernel, rfl, by decide +kernel, by decide +kernel⟩
abbrev s_is_between : Stmt := topS 4
theorem sc_is_between : FnScope ["thing", "least", "most"] ["thing", "least", "most"] (defScope s_is_between) := ⟨rfl, rfl, rfl, by decide +kernel, rfl, by decide +kernel, by decide +kernel⟩
abbrev s_is_size : Stmt := topS 5
theorem sc_is_size : FnScope ["thing"] ["thing"] (defScope s_is_size) := ⟨rfl, rfl, rfl, by decide +kernel, rfl, by decide +kernel, by decide +kernel⟩
abbrev s_common_divisor : Stmt := topS 7
theorem sc_common_divisor : FnScope ["one", "other"] ["one", "other"] (defScope s_common_divisor) := ⟨rfl, rfl, rfl, by decide +kernel, rfl, by decide +kernel, by decide +kernel⟩
abbrev s_fraction : Stmt := topS 8
theorem sc_fraction : FnScope ["numerator", "denominator", "common"] ["numerator", "denominator"] (defScope s_fraction) := ⟨rfl, rfl, rfl, by decide +kernel, rfl, by decide +kernel, by decide +kernel⟩
abbrev s_is_less : Stmt := topS 9
theorem sc_is_less : FnScope ["one", "other"] ["one", "other"] (defScope s_is_less) := ⟨rfl, rfl, rfl, by decide +kernel, rfl, by decide +kernel, by decide +kernel⟩
abbrev s_least_of : Stmt := topS 10
theorem sc_least_of : FnScope ["fractions", "found", "one"] ["fractions"] (defScope s_least_of) := ⟨rfl, rfl, rfl, by decide +kernel, rfl, by decide +kernel, by decide +kernel⟩
abbrev s_greatest_of : Stmt := topS 11
theorem sc_greatest_of : FnScope ["fractions", "found", "one"] ["fractions"] (defScope s_greatest_of) := ⟨rfl, rfl, rfl, by decide +kernel, rfl, by decide +kernel, by decide +kernel⟩
abbrev s_Card_value : Stmt := inClass (topS 25) 2
theorem sc_Card_value : FnScope ["self", "count", "begin", "end"] ["self", "count", "begin", "end"] (defScope s_Card_value) := ⟨rfl, rfl, rfl, by decide +kernel, rfl, by decide +kernel, by decide +kernel⟩
abbrev s_Card_size : Stmt := inClass (topS 25) 1
theorem sc_Card_size : FnScope ["self"] ["self"] (defScope s_Card_size) := ⟨rfl, rfl, rfl, by decide +kernel, rfl, by decide +kernel, by decide +kernel⟩
abbrev s_step_sums : Stmt := topS 12
theorem sc_step_sums : FnScope ["card", "count", "gaps", "rows", "step", "last", "gap", "end", "begin"] ["card", "count"] (defScope s_step_sums) := ⟨rfl, rfl, rfl, by decide +kernel, rfl, by decide +kernel, by decide +kernel⟩
abbrev s_rate : Stmt := topS 13
theorem sc_rate : FnScope ["card", "count", "size", "rows", "means", "end", "k"] ["card", "count"] (defScope s_rate) := ⟨rfl, rfl, rfl, by decide +kernel, rfl, by decide +kernel, by decide +kernel⟩
abbrev s_Ring_ranks : Stmt := inClass (topS 20) 3
theorem sc_Ring_ranks : FnScope ["self"] ["self"] (defScope s_Ring_ranks) := ⟨rfl, rfl, rfl, by decide +kernel, rfl, by decide +kernel, by decide +kernel⟩
abbrev s_lap_rates : Stmt := topS 14
theorem sc_lap_rates : FnScope ["card", "ring", "found", "rank", "stronger", "several", "low", "high", "other"] ["card", "ring"] (defScope s_lap_rates) := ⟨rfl, rfl, rfl, by decide +kernel, rfl, by decide +kernel, by decide +kernel⟩
abbrev s_Ring___init__ : Stmt := inClass (topS 20) 0
theorem sc_Ring___init__ : FnScope ["self", "ranks", "rank"] ["self", "ranks"] (defScope s_Ring___init__) := ⟨rfl, rfl, rfl, by decide +kernel, rfl, by decide +kernel, by decide +kernel⟩
abbrev s_Ring_block : Stmt := inClass (topS 20) 1
theorem sc_Ring_block : FnScope ["cls", "size", "count", "last", "strong", "step", "place"] ["cls", "size", "count", "last"] (defScope s_Ring_block) := ⟨rfl, rfl, rfl, by decide +kernel, rfl, by decide +kernel, by decide +kernel⟩
abbrev s_Ring_size : Stmt := inClass (topS 20) 2
theorem sc_Ring_size : FnScope ["self"] ["self"] (defScope s_Ring_size) := ⟨rfl, rfl, rfl, by decide +kernel, rfl, by decide +kernel, by decide +kernel⟩
abbrev s_Ring_strong : Stmt := inClass (topS 20) 5
theorem sc_Ring_strong : FnScope ["self", "bound", "place", "rank"] ["self", "bound"] (defScope s_Ring_strong) := ⟨rfl, rfl, rfl, by decide +kernel, rfl, by decide +kernel, by decide +kernel⟩
abbrev s_Ring_up_to : Stmt := inClass (topS 20) 7
theorem sc_Ring_up_to : FnScope ["self", "bound", "gap", "strong", "laps", "place", "other"] ["self", "bound", "gap"] (defScope s_Ring_up_to) := ⟨rfl, rfl, rfl, by decide +kernel, rfl, by decide +kernel, by decide +kernel⟩
abbrev s_levels_after : Stmt := topS 22
theorem sc_levels_after : FnScope ["levels", "count", "schedule", "gap", "size", "now", "before", "after"] ["levels", "count", "schedule"] (defScope s_levels_after) := ⟨rfl, rfl, rfl, by decide +kernel, rfl, by decide +kernel, by decide +kernel⟩
abbrev s_block_values : Stmt := topS 23
theorem sc_block_values : FnScope ["size", "count", "begin", "schedule", "block", "levels", "level", "gap"] ["size", "count", "begin", "schedule"] (defScope s_block_values) := ⟨rfl, rfl, rfl, by decide +kernel, rfl, by decide +kernel, by decide +kernel⟩
abbrev s_Card___init__ : Stmt := inClass (topS 25) 0
theorem sc_Card___init__ : FnScope ["self", "places", "tables"] ["self", "places", "tables"] (defScope s_Card___init__) := ⟨rfl, rfl, rfl, by decide +kernel, rfl, by decide +kernel, by decide +kernel⟩
abbrev s_card_of : Stmt := topS 26
theorem sc_card_of : FnScope ["size", "schedule", "tables", "count", "begin"] ["size", "schedule"] (defScope s_card_of) := ⟨rfl, rfl, rfl, by decide +kernel, rfl, by decide +kernel, by decide +kernel⟩
abbrev s_law_bag : Stmt := topS 28
theorem sc_law_bag : FnScope ["_law_script", "_law_cell"] ["_law_script"] (defScope s_law_bag) := ⟨rfl, rfl, rfl, by decide +kernel, rfl, by decide +kernel, by decide +kernel⟩
abbrev s_law_take : Stmt := topS 29
theorem sc_law_take : FnScope ["_law_bag_here", "_law_many", "_law_first", "_law_second", "_law_cell", "_law_value"] ["_law_bag_here", "_law_many"] (defScope s_law_take) := ⟨rfl, rfl, rfl, by decide +kernel, rfl, by decide +kernel, by decide +kernel⟩
abbrev s_law_some_size : Stmt := topS 30
theorem sc_law_some_size : FnScope ["_law_bag_here", "_law_most"] ["_law_bag_here", "_law_most"] (defScope s_law_some_size) := ⟨rfl, rfl, rfl, by decide +kernel, rfl, by decide +kernel, by decide +kernel⟩
abbrev s_law_ranks : Stmt := topS 31
theorem sc_law_ranks : FnScope ["_law_bag_here", "_law_size", "_law_place", "_law_way", "_law_found", "_law_spot", "_law_few", "_law_great", "_law_rank"] ["_law_bag_here", "_law_size"] (defScope s_law_ranks) := ⟨rfl, rfl, rfl, by decide +kernel, rfl, by decide +kernel, by decide +kernel⟩
abbrev s_law_schedule : Stmt := topS 32
theorem sc_law_schedule : FnScope ["_law_bag_here", "_law_size", "_law_most", "_law_few", "_law_found", "_law_k", "_law_many", "_law_way", "_law_begin", "_law_gap"] ["_law_bag_here", "_law_size", "_law_most"] (defScope s_law_schedule) := ⟨rfl, rfl, rfl, by decide +kernel, rfl, by decide +kernel, by decide +kernel⟩
abbrev s_law_standing : Stmt := topS 33
theorem sc_law_standing : FnScope ["_law_size"] ["_law_size"] (defScope s_law_standing) := ⟨rfl, rfl, rfl, by decide +kernel, rfl, by decide +kernel, by decide +kernel⟩
abbrev s_law_called : Stmt := topS 34
theorem sc_law_called : FnScope ["_law_ranks_here", "_law_there", "_law_gap", "_law_size", "_law_first", "_law_second"] ["_law_ranks_here", "_law_there", "_law_gap"] (defScope s_law_called) := ⟨rfl, rfl, rfl, by decide +kernel, rfl, by decide +kernel, by decide +kernel⟩
abbrev s_law_run : Stmt := topS 35
theorem sc_law_run : FnScope ["_law_ranks_here", "_law_schedule_here", "_law_there", "_law_found", "_law_at", "_law_gap"] ["_law_ranks_here", "_law_schedule_here"] (defScope s_law_run) := ⟨rfl, rfl, rfl, by decide +kernel, rfl, by decide +kernel, by decide +kernel⟩
abbrev s_law_ended : Stmt := topS 36
theorem sc_law_ended : FnScope ["_law_there", "_law_size", "_law_found", "_law_place", "_law_person"] ["_law_there"] (defScope s_law_ended) := ⟨rfl, rfl, rfl, by decide +kernel, rfl, by decide +kernel, by decide +kernel⟩
abbrev s_law_after : Stmt := topS 37
theorem sc_law_after : FnScope ["_law_ranks_here", "_law_there", "_law_copy"] ["_law_ranks_here", "_law_there"] (defScope s_law_after) := ⟨rfl, rfl, rfl, by decide +kernel, rfl, by decide +kernel, by decide +kernel⟩
abbrev s_law_is_less : Stmt := topS 38
theorem sc_law_is_less : FnScope ["_law_one", "_law_other"] ["_law_one", "_law_other"] (defScope s_law_is_less) := ⟨rfl, rfl, rfl, by decide +kernel, rfl, by decide +kernel, by decide +kernel⟩
abbrev s_law_order_right : Stmt := topS 39
theorem sc_law_order_right : FnScope ["_law_ranks_here", "_law_laps", "_law_one", "_law_other"] ["_law_ranks_here", "_law_laps"] (defScope s_law_order_right) := ⟨rfl, rfl, rfl, by decide +kernel, rfl, by decide +kernel, by decide +kernel⟩
abbrev s_law_steps_right : Stmt := topS 40
theorem sc_law_steps_right : FnScope ["_law_card", "_law_rates", "_law_count", "_law_both", "_law_low", "_law_here", "_law_high"] ["_law_card"] (defScope s_law_steps_right) := ⟨rfl, rfl, rfl, by decide +kernel, rfl, by decide +kernel, by decide +kernel⟩
abbrev s_law_laps_right : Stmt := topS 41
theorem sc_law_laps_right : FnScope ["_law_ranks_here", "_law_schedule_here", "_law_laps", "_law_turn", "_law_size", "_law_known", "_law_there", "_law_key", "_law_rank", "_law_before", "_law_ends", "_law_group", "_law_gone", "_law_many", "_law_top", "_law_low", "_law_place"] ["_law_ranks_here", "_law_schedule_here", "_law_laps"] (defScope s_law_laps_right) := ⟨rfl, rfl, rfl, by decide +kernel, rfl, by decide +kernel, by decide +kernel⟩
abbrev s_law : Stmt := topS 42
theorem sc_law : FnScope ["_law_script", "_law_bag_here", "_law_go", "_law_size", "_law_card", "_law_laps", "_law_ranks_here", "_law_schedule_here"] ["_law_script"] (defScope s_law) := ⟨rfl, rfl, rfl, by decide +kernel, rfl, by decide +kernel, by decide +kernel⟩
section
variable {P : Program} {w : World} {K : PySem.W.Frag} {mg : Str → Option Value} {base : Heap}
/-- is_integer(thing) -/
def m_is_integer  : DTS :=
    (mRet (mAndV (mIsi "int" (mVar 0)) (mNotV (mIsi "bool" (mVar 0)))))
set_option maxHeartbeats 4000000 in
theorem walk_is_integer {f : Addr} {fd : FuncData} (F : Fun K "is_integer" "is_integer" s_is_integer f fd) (z_isinstance : mg "isinstance" = none) (z_bool : mg "bool" = none) (z_int : mg "int" = none)
    {sd : DSp} (hv : ∀ ds Qd Ed, ds.length = 1 → sd ds Qd Ed → m_is_integer (endsD [.S] Qd) (startD ["thing"] [.S] ds)) :
    FnG P w K mg base 1 f fd ["thing"] (spD K [.S] sd) := by
  refine fn_dm (N := ["thing"]) F sc_is_integer rfl hv fun cdv A outer s H0 vs E O H hg hr => ?_
  have sc := sc_is_integer
  unfold m_is_integer
  exact ⟨_, (ds_one (ds_ret (de_and (de_isi (T := "int") (by simp) (by rfl) z_isinstance (de_var 0 (pv 0)) (pe_bltn (by rfl) z_int (by decide +kernel) rfl)) (de_one (de_not (de_isi (T := "bool") (by simp) (by rfl) z_isinstance (de_var 0 (pv 0)) (pe_bltn (by rfl) z_bool (by decide +kernel) rfl)))))))⟩
/-- is_between(thing, least, most) -/
def m_is_between (sd_is_integer : DSp) : DTS :=
    (mRet (mAndV (mCall [.S] sd_is_integer (mCons (mVar 0) mNil)) (mChain (fun i j => decide (i ≤ j)) (fun i j => decide (i ≤ j)) (mVar 1) (mVar 0) (mVar 2))))
set_option maxHeartbeats 4000000 in
theorem walk_is_between {f : Addr} {fd : FuncData} (F : Fun K "is_between" "is_between" s_is_between f fd) {sd_is_integer : DSp}
    {f_is_integer : Addr} {fd_is_integer : FuncData} (F_is_integer : FnG P w K mg base 1 f_is_integer fd_is_integer ["thing"] (spD K [.S] sd_is_integer)) (g_is_integer : mg "is_integer" = some (.ref f_is_integer)) (k_is_integer : PySem.W.keepIn K (.ref f_is_integer) = true) (b_is_integer : Binds K fd_is_integer ["thing"] [])
    {sd : DSp} (hv : ∀ ds Qd Ed, ds.length = 3 → sd ds Qd Ed → m_is_between sd_is_integer (endsD [.S, .S, .S] Qd) (startD ["thing", "least", "most"] [.S, .S, .S] ds)) :
    FnG P w K mg base 2 f fd ["thing", "least", "most"] (spD K [.S, .S, .S] sd) := by
  refine fn_dm (N := ["thing", "least", "most"]) F sc_is_between rfl hv fun cdv A outer s H0 vs E O H hg hr => ?_
  have sc := sc_is_between
  unfold m_is_between
  exact ⟨_, (ds_one (ds_ret (de_and (de_call F_is_integer hg (hr.mono (by decide)) (by rfl) g_is_integer k_is_integer b_is_integer (da_cons (de_var 0 (pv 0)) da_nil)) (de_one (de_chain2 (pe_chain op_le op_le) (de_var 1 (pv 1)) (de_var 0 (pv 0)) (de_var 2 (pv 2)))))))⟩
/-- is_size(thing) -/
def m_is_size (sd_is_between : DSp) : DTS :=
    (mRet (mCall [.S, .S, .S] sd_is_between (mCons (mVar 0) (mCons (mC (.int 2)) (mCons (mC (.int 12)) mNil)))))
set_option maxHeartbeats 4000000 in
theorem walk_is_size {f : Addr} {fd : FuncData} (F : Fun K "is_size" "is_size" s_is_size f fd) {sd_is_between : DSp}
    {f_is_between : Addr} {fd_is_between : FuncData} (F_is_between : FnG P w K mg base 2 f_is_between fd_is_between ["thing", "least", "most"] (spD K [.S, .S, .S] sd_is_between)) (g_is_between : mg "is_between" = some (.ref f_is_between)) (k_is_between : PySem.W.keepIn K (.ref f_is_between) = true) (b_is_between : Binds K fd_is_between ["thing", "least", "most"] []) {t_MOST_PLACES : Tok} (g_MOST_PLACES : mg "MOST_PLACES" = some (.int 12 t_MOST_PLACES))
    {sd : DSp} (hv : ∀ ds Qd Ed, ds.length = 1 → sd ds Qd Ed → m_is_size sd_is_between (endsD [.S] Qd) (startD ["thing"] [.S] ds)) :
    FnG P w K mg base 3 f fd ["thing"] (spD K [.S] sd) := by
  refine fn_dm (N := ["thing"]) F sc_is_size rfl hv fun cdv A outer s H0 vs E O H hg hr => ?_
  have sc := sc_is_size
  unfold m_is_size
  exact ⟨_, (ds_one (ds_ret (de_call F_is_between hg (hr.mono (by decide)) (by rfl) g_is_between k_is_between b_is_between (da_cons (de_var 0 (pv 0)) (da_cons de_int (da_cons (de_globI (pe_glob (by rfl) g_MOST_PLACES ⟨_, rfl⟩)) da_nil))))))⟩
/-- common_divisor(one, other) -/
def m_common_divisor  : DTS :=
    (mSeqS (mPar (mPCons (mCB absD (mCons (mVar 0) mNil)) (mPCons (mCB absD (mCons (mVar 1) mNil)) mPNil)) (.sh 0 :: .sh 1 :: []))
    (mSeqS (mWhile (mTest (mOp gtD (mVar 1) (mC (.int 0)))) (mPar (mPCons (mVar 1) (mPCons (mOp modD (mVar 0) (mVar 1)) mPNil)) (.sh 0 :: .sh 1 :: [])))
    (mRet (mVar 0))))
set_option maxHeartbeats 4000000 in
theorem walk_common_divisor {f : Addr} {fd : FuncData} (F : Fun K "common_divisor" "common_divisor" s_common_divisor f fd) (z_abs : mg "abs" = none)
    {sd : DSp} (hv : ∀ ds Qd Ed, ds.length = 2 → sd ds Qd Ed → m_common_divisor (endsD [.S, .S] Qd) (startD ["one", "other"] [.S, .S] ds)) :
    FnG P w K mg base 1 f fd ["one", "other"] (spD K [.S, .S] sd) := by
  refine fn_dm (N := ["one", "other"]) F sc_common_divisor rfl hv fun cdv A outer s H0 vs E O H hg hr => ?_
  have sc := sc_common_divisor
  unfold m_common_divisor
  exact ⟨_, (ds_cons (ds_par2 (fun h => ps_par (i := 0) (j := 1) rfl sc.nd rfl rfl (by decide) rfl rfl h (by rfl)) (dp_cons (de_abs (by rfl) z_abs (da_cons (de_var 0 (pv 0)) da_nil)) (fun _ => (dp_cons (de_abs (by rfl) z_abs (da_cons (de_var 1 (pv 1)) da_nil)) (fun _ => dp_nil)))) (sim_tsh (sim_tsh sim_tnil 1) 0))
    (ds_cons (ds_while PassesOwn.never (dt_cmp op_gt sim_gt (de_var 1 (pv 1)) de_int (nomark _)) (ds_one (ds_par2 (fun h => ps_par (i := 0) (j := 1) rfl sc.nd rfl rfl (by decide) rfl rfl h (by rfl)) (dp_cons (de_var 1 (pv 1)) (fun _ => (dp_cons (de_mod (de_var 0 (pv 0)) (de_var 1 (pv 1))) (fun _ => dp_nil)))) (sim_tsh (sim_tsh sim_tnil 1) 0))))
    (ds_one (ds_ret (de_var 0 (pv 0))))))⟩
/-- fraction(numerator, denominator) -/
def m_fraction (sd_common_divisor : DSp) : DTS :=
    (mSeqS (mSet 2 (mCall [.S, .S] sd_common_divisor (mCons (mVar 0) (mCons (mVar 1) mNil))))
    (mRet (mTup (mCons (mOp fdivD (mVar 0) (mVar 2)) (mCons (mOp fdivD (mVar 1) (mVar 2)) mNil)))))
set_option maxHeartbeats 4000000 in
theorem walk_fraction {f : Addr} {fd : FuncData} (F : Fun K "fraction" "fraction" s_fraction f fd) {sd_common_divisor : DSp}
    {f_common_divisor : Addr} {fd_common_divisor : FuncData} (F_common_divisor : FnG P w K mg base 1 f_common_divisor fd_common_divisor ["one", "other"] (spD K [.S, .S] sd_common_divisor)) (g_common_divisor : mg "common_divisor" = some (.ref f_common_divisor)) (k_common_divisor : PySem.W.keepIn K (.ref f_common_divisor) = true) (b_common_divisor : Binds K fd_common_divisor ["one", "other"] [])
    {sd : DSp} (hv : ∀ ds Qd Ed, ds.length = 2 → sd ds Qd Ed → m_fraction sd_common_divisor (endsD [.S, .S] Qd) (startD ["numerator", "denominator", "common"] [.S, .S] ds)) :
    FnG P w K mg base 2 f fd ["numerator", "denominator"] (spD K [.S, .S] sd) := by
  refine fn_dm (N := ["numerator", "denominator", "common"]) F sc_fraction rfl hv fun cdv A outer s H0 vs E O H hg hr => ?_
  have sc := sc_fraction
  unfold m_fraction
  exact ⟨_, (ds_cons (ds_set (de_call F_common_divisor hg (hr.mono (by decide)) (by rfl) g_common_divisor k_common_divisor b_common_divisor (da_cons (de_var 0 (pv 0)) (da_cons (de_var 1 (pv 1)) da_nil))) (fun h => ps_set (i := 2) sc.nd rfl (by first | exact Or.inl rfl | exact Or.inr rfl) h))
    (ds_one (ds_ret (de_tup (da_cons (de_fdiv (de_var 0 (pv 0)) (de_var 2 (pv 2))) (da_cons (de_fdiv (de_var 1 (pv 1)) (de_var 2 (pv 2))) da_nil))))))⟩
/-- is_less(one, other) -/
def m_is_less  : DTS :=
    (mRet (mOp ltD (mOp mulD (mOp ixD (mVar 0) (mC (.int 0))) (mOp ixD (mVar 1) (mC (.int 1)))) (mOp mulD (mOp ixD (mVar 1) (mC (.int 0))) (mOp ixD (mVar 0) (mC (.int 1))))))
set_option maxHeartbeats 4000000 in
theorem walk_is_less {f : Addr} {fd : FuncData} (F : Fun K "is_less" "is_less" s_is_less f fd)
    {sd : DSp} (hv : ∀ ds Qd Ed, ds.length = 2 → sd ds Qd Ed → m_is_less (endsD [.S, .S] Qd) (startD ["one", "other"] [.S, .S] ds)) :
    FnG P w K mg base 1 f fd ["one", "other"] (spD K [.S, .S] sd) := by
  refine fn_dm (N := ["one", "other"]) F sc_is_less rfl hv fun cdv A outer s H0 vs E O H hg hr => ?_
  have sc := sc_is_less
  unfold m_is_less
  exact ⟨_, (ds_one (ds_ret (de_lt (de_mul (de_ix (de_var 0 (pv 0)) de_int) (de_ix (de_var 1 (pv 1)) de_int)) (de_mul (de_ix (de_var 1 (pv 1)) de_int) (de_ix (de_var 0 (pv 0)) de_int)))))⟩
/-- least_of(fractions) -/
def m_least_of (sd_is_less : DSp) : DTS :=
    (mSeqS (mSet 1 (mOp ixD (mVar 0) (mC (.int 0))))
    (mSeqS (mFor (mSeq (mVar 0)) (mgName 2) (mIfS (mTest (mCall [.S, .S] sd_is_less (mCons (mVar 2) (mCons (mVar 1) mNil)))) (mSet 1 (mVar 2)) mNext))
    (mRet (mVar 1))))
set_option maxHeartbeats 4000000 in
theorem walk_least_of {f : Addr} {fd : FuncData} (F : Fun K "least_of" "least_of" s_least_of f fd) {sd_is_less : DSp}
    {f_is_less : Addr} {fd_is_less : FuncData} (F_is_less : FnG P w K mg base 1 f_is_less fd_is_less ["one", "other"] (spD K [.S, .S] sd_is_less)) (g_is_less : mg "is_less" = some (.ref f_is_less)) (k_is_less : PySem.W.keepIn K (.ref f_is_less) = true) (b_is_less : Binds K fd_is_less ["one", "other"] [])
    {sd : DSp} (hv : ∀ ds Qd Ed, ds.length = 1 → sd ds Qd Ed → m_least_of sd_is_less (endsD [.S] Qd) (startD ["fractions", "found", "one"] [.S] ds)) :
    FnG P w K mg base 2 f fd ["fractions"] (spD K [.S] sd) := by
  refine fn_dm (N := ["fractions", "found", "one"]) F sc_least_of rfl hv fun cdv A outer s H0 vs E O H hg hr => ?_
  have sc := sc_least_of
  unfold m_least_of
  exact ⟨_, (ds_cons (ds_set (de_ix (de_var 0 (pv 0)) de_int) (fun h => ps_set (i := 1) sc.nd rfl (by first | exact Or.inl rfl | exact Or.inr rfl) h))
    (ds_cons (ds_for PassesOwn.never rfl (di_seq (de_var 0 (pv 0))) (fun _ => (dg_name 2 (pg_name (i := 2) sc.nd rfl (by first | exact Or.inl rfl | exact Or.inr rfl)))) (fun _ => (ds_one (ds_if (dt_val (de_call F_is_less hg (hr.mono (by decide)) (by rfl) g_is_less k_is_less b_is_less (da_cons (de_var 2 (pv 2)) (da_cons (de_var 1 (pv 1)) da_nil)))) (ds_one (ds_set (de_var 2 (pv 2)) (fun h => ps_set (i := 1) sc.nd rfl (by first | exact Or.inl rfl | exact Or.inr rfl) h))) ds_nil))))
    (ds_one (ds_ret (de_var 1 (pv 1))))))⟩
/-- greatest_of(fractions) -/
def m_greatest_of (sd_is_less : DSp) : DTS :=
    (mSeqS (mSet 1 (mOp ixD (mVar 0) (mC (.int 0))))
    (mSeqS (mFor (mSeq (mVar 0)) (mgName 2) (mIfS (mTest (mCall [.S, .S] sd_is_less (mCons (mVar 1) (mCons (mVar 2) mNil)))) (mSet 1 (mVar 2)) mNext))
    (mRet (mVar 1))))
set_option maxHeartbeats 4000000 in
theorem walk_greatest_of {f : Addr} {fd : FuncData} (F : Fun K "greatest_of" "greatest_of" s_greatest_of f fd) {sd_is_less : DSp}
    {f_is_less : Addr} {fd_is_less : FuncData} (F_is_less : FnG P w K mg base 1 f_is_less fd_is_less ["one", "other"] (spD K [.S, .S] sd_is_less)) (g_is_less : mg "is_less" = some (.ref f_is_less)) (k_is_less : PySem.W.keepIn K (.ref f_is_less) = true) (b_is_less : Binds K fd_is_less ["one", "other"] [])
    {sd : DSp} (hv : ∀ ds Qd Ed, ds.length = 1 → sd ds Qd Ed → m_greatest_of sd_is_less (endsD [.S] Qd) (startD ["fractions", "found", "one"] [.S] ds)) :
    FnG P w K mg base 2 f fd ["fractions"] (spD K [.S] sd) := by
  refine fn_dm (N := ["fractions", "found", "one"]) F sc_greatest_of rfl hv fun cdv A outer s H0 vs E O H hg hr => ?_
  have sc := sc_greatest_of
  unfold m_greatest_of
  exact ⟨_, (ds_cons (ds_set (de_ix (de_var 0 (pv 0)) de_int) (fun h => ps_set (i := 1) sc.nd rfl (by first | exact Or.inl rfl | exact Or.inr rfl) h))
    (ds_cons (ds_for PassesOwn.never rfl (di_seq (de_var 0 (pv 0))) (fun _ => (dg_name 2 (pg_name (i := 2) sc.nd rfl (by first | exact Or.inl rfl | exact Or.inr rfl)))) (fun _ => (ds_one (ds_if (dt_val (de_call F_is_less hg (hr.mono (by decide)) (by rfl) g_is_less k_is_less b_is_less (da_cons (de_var 1 (pv 1)) (da_cons (de_var 2 (pv 2)) da_nil)))) (ds_one (ds_set (de_var 2 (pv 2)) (fun h => ps_set (i := 1) sc.nd rfl (by first | exact Or.inl rfl | exact Or.inr rfl) h))) ds_nil))))
    (ds_one (ds_ret (de_var 1 (pv 1))))))⟩
/-- Card.value(self, count, begin, end) -/
def m_Card_value (C_Card : Addr)  : DTS :=
    (mRet (mOp ixD (mOp ixD (mOp ixD (mFld C_Card "tables" (mVar 0)) (mOp subD (mVar 1) (mC (.int 1)))) (mVar 2)) (mVar 3)))
set_option maxHeartbeats 4000000 in
theorem walk_Card_value {f : Addr} {fd : FuncData} (F : Fun K "value" "Card.value" s_Card_value f fd) {C_Card : Addr} (n_Card_tables : NoAttr K C_Card "tables") (cl_Card : Cls K C_Card)
    {sd : DSp} (hv : ∀ ds Qd Ed, ds.length = 4 → sd ds Qd Ed → m_Card_value C_Card (endsD [.S, .S, .S, .S] Qd) (startD ["self", "count", "begin", "end"] [.S, .S, .S, .S] ds)) :
    FnG P w K mg base 1 f fd ["self", "count", "begin", "end"] (spD K [.S, .S, .S, .S] sd) := by
  refine fn_dm (N := ["self", "count", "begin", "end"]) F sc_Card_value rfl hv fun cdv A outer s H0 vs E O H hg hr => ?_
  have sc := sc_Card_value
  unfold m_Card_value
  exact ⟨_, (ds_one (ds_ret (de_ix (de_ix (de_ix (de_fld cl_Card n_Card_tables (de_var 0 (pv 0))) (de_sub (de_var 1 (pv 1)) de_int)) (de_var 2 (pv 2))) (de_var 3 (pv 3)))))⟩
/-- Card.size(self) -/
def m_Card_size (C_Card : Addr)  : DTS :=
    (mRet (mFld C_Card "places" (mVar 0)))
set_option maxHeartbeats 4000000 in
theorem walk_Card_size {f : Addr} {fd : FuncData} (F : Fun K "size" "Card.size" s_Card_size f fd) {C_Card : Addr} (n_Card_places : NoAttr K C_Card "places") (cl_Card : Cls K C_Card)
    {sd : DSp} (hv : ∀ ds Qd Ed, ds.length = 1 → sd ds Qd Ed → m_Card_size C_Card (endsD [.S] Qd) (startD ["self"] [.S] ds)) :
    FnG P w K mg base 1 f fd ["self"] (spD K [.S] sd) := by
  refine fn_dm (N := ["self"]) F sc_Card_size rfl hv fun cdv A outer s H0 vs E O H hg hr => ?_
  have sc := sc_Card_size
  unfold m_Card_size
  exact ⟨_, (ds_one (ds_ret (de_fld cl_Card n_Card_places (de_var 0 (pv 0)))))⟩
/-- step_sums(card, count) -/
def m_step_sums (C_Card : Addr) (sd_Card_value sd_Card_size : DSp) : DTS :=
    (mSeqS (mSet 2 (mLRg (mRg1 (mCall [.S] sd_Card_size (mSelf1 C_Card (mVar 0))))))
    (mSeqS (mSetO 3 (mLst (mCons (mComp (mSeq (mVar 2)) (mgName 6) mYes (mC (.int 0)) [6]) mNil)))
    (mSeqS (mFor (mSeq (mVar 2)) (mgName 4) (mSeqS (mSet 5 (mOp ixD (mVar 3) (mUn negD (mC (.int 1)))))
    (mDrop (mMut appendD (mVar 3) (mCons (mComp (mSeq (mVar 2)) (mgName 7) mYes (mCB minD (mCons (mComp (mSeq (mVar 2)) (mgName 8) mYes (mOp addD (mOp ixD (mVar 5) (mVar 8)) (mCall [.S, .S, .S, .S] sd_Card_value (mSelf C_Card "value" (mVar 0) (mCons (mVar 1) (mCons (mVar 8) (mCons (mVar 7) mNil)))))) [8]) mNil)) [7]) mNil)))))
    (mRet (mVar 3)))))
set_option maxHeartbeats 4000000 in
theorem walk_step_sums {f : Addr} {fd : FuncData} (F : Fun K "step_sums" "step_sums" s_step_sums f fd) {C_Card : Addr} {sd_Card_value sd_Card_size : DSp}
    {f_Card_value : Addr} {fd_Card_value : FuncData} (F_Card_value : FnG P w K mg base 1 f_Card_value fd_Card_value ["self", "count", "begin", "end"] (spD K [.S, .S, .S, .S] sd_Card_value)) (b_Card_value : Binds K fd_Card_value ["self", "count", "begin", "end"] [])
    {f_Card_size : Addr} {fd_Card_size : FuncData} (F_Card_size : FnG P w K mg base 1 f_Card_size fd_Card_size ["self"] (spD K [.S] sd_Card_size)) (b_Card_size : Binds K fd_Card_size ["self"] []) (cl_Card : Cls K C_Card) (mt_Card_value : Meth K C_Card "value" f_Card_value) {p_Card_size : Addr} (pr_Card_size : PropOf K C_Card "size" p_Card_size f_Card_size) (z_min : mg "min" = none) (z_list : mg "list" = none) (z_range : mg "range" = none)
    {sd : DSp} (hv : ∀ ds Qd Ed, ds.length = 2 → sd ds Qd Ed → m_step_sums C_Card sd_Card_value sd_Card_size (endsD [.S, .S] Qd) (startD ["card", "count", "gaps", "rows", "step", "last", "gap", "end", "begin"] [.S, .S] ds)) :
    FnG P w K mg base 3 f fd ["card", "count"] (spD K [.S, .S] sd) := by
  refine fn_dm (N := ["card", "count", "gaps", "rows", "step", "last", "gap", "end", "begin"]) F sc_step_sums rfl hv fun cdv A outer s H0 vs E O H hg hr => ?_
  have sc := sc_step_sums
  unfold m_step_sums
  exact ⟨_, (ds_cons (ds_set (de_listRg rfl (by rfl) z_list (dr_1 (by rfl) z_range (de_prop cl_Card pr_Card_size F_Card_size hg (hr.mono (by decide)) b_Card_size (de_var 0 (pv 0))))) (fun h => ps_set (i := 2) sc.nd rfl (by first | exact Or.inl rfl | exact Or.inr rfl) h))
    (ds_cons (ds_setO (de_lst (da_cons (de_comp (own := [("gap", 6)]) ⟨rfl, sc.nd, (di_seq (de_var 2 (pv 2))), blkOk_by (own := [("gap", 6)]) (N := ["card", "count", "gaps", "rows", "step", "last", "gap", "end", "begin"]) (sc := defScope s_step_sums) (by decide +kernel), (fun _ _ _ _ _ _ => (dg_name 6 (pg_name (i := 6) sc.nd rfl (by first | exact Or.inl rfl | exact Or.inr rfl)))), (own_name (by simp)), mono_name, (fun _ _ _ _ _ _ => df_nil), (fun _ _ _ _ _ _ => de_int)⟩) da_nil)) (fun h => ps_set (i := 3) sc.nd rfl (by first | exact Or.inl rfl | exact Or.inr rfl) h))
    (ds_cons (ds_for PassesOwn.never rfl (di_seq (de_var 2 (pv 2))) (fun _ => (dg_name 4 (pg_name (i := 4) sc.nd rfl (by first | exact Or.inl rfl | exact Or.inr rfl)))) (fun _ => (ds_cons (ds_set (de_ix (de_var 3 (pv 3)) (de_neg de_int)) (fun h => ps_set (i := 5) sc.nd rfl (by first | exact Or.inl rfl | exact Or.inr rfl) h))
    (ds_one (ds_expr (de_append (fun x y => pe_bm PySem.F.plainAttrs_list PySem.F.slot_list_append PySem.F.type_list_append mt_append x y) (de_var 3 (pv 3)) (da_cons (de_comp (own := [("end", 7)]) ⟨rfl, sc.nd, (di_seq (de_var 2 (pv 2))), blkOk_by (own := [("end", 7)]) (N := ["card", "count", "gaps", "rows", "step", "last", "gap", "end", "begin"]) (sc := defScope s_step_sums) (by decide +kernel), (fun _ _ _ _ _ _ => (dg_name 7 (pg_name (i := 7) sc.nd rfl (by first | exact Or.inl rfl | exact Or.inr rfl)))), (own_name (by simp)), mono_name, (fun _ _ _ _ _ _ => df_nil), (fun _ _ _ _ _ _ => (de_min rfl (by rfl) z_min (da_cons (de_comp (own := [("begin", 8)]) ⟨rfl, sc.nd, (di_seq (de_var 2 (pv 2))), blkOk_in (own := [("begin", 8)]) (N := ["card", "count", "gaps", "rows", "step", "last", "gap", "end", "begin"]) (by decide +kernel), (fun _ _ _ _ _ _ => (dg_name 8 (pg_name (i := 8) sc.nd rfl (by first | exact Or.inl rfl | exact Or.inr rfl)))), (own_name (by simp)), mono_name, (fun _ _ _ _ _ _ => df_nil), (fun _ _ _ _ _ _ => (de_add (de_ix (de_var 5 (pv 5)) (de_var 8 (pv 8))) (de_meth cl_Card mt_Card_value F_Card_value hg (hr.mono (by decide)) b_Card_value (de_var 0 (pv 0)) (da_cons (de_var 1 (pv 1)) (da_cons (de_var 8 (pv 8)) (da_cons (de_var 7 (pv 7)) da_nil))))))⟩) da_nil)))⟩) da_nil)))))))
    (ds_one (ds_ret (de_var 3 (pv 3)))))))⟩
/-- rate(card, count) -/
def m_rate (C_Card : Addr) (sd_least_of sd_greatest_of sd_fraction sd_step_sums sd_Card_size : DSp) : DTS :=
    (mSeqS (mSet 2 (mCall [.S] sd_Card_size (mSelf1 C_Card (mVar 0))))
    (mSeqS (mIfS (mTest (mOp inD (mVar 1) (mTup (mCons (mC (.int 0)) (mCons (mVar 2) mNil))))) (mRet (mTup (mCons (mC (.int 0)) (mCons (mC (.int 1)) mNil)))) mNext)
    (mSeqS (mSet 3 (mCall [.S, .S] sd_step_sums (mCons (mVar 0) (mCons (mVar 1) mNil))))
    (mSeqS (mSetO 4 (mLst mNil))
    (mSeqS (mFor (mRng1 (mCons (mVar 2) mNil)) (mgName 5) (mDrop (mMut appendD (mVar 4) (mCons (mCall [.S] sd_greatest_of (mCons (mComp (mRng1 (mCons (mVar 2) mNil)) (mgName 6) mYes (mCall [.S, .S] sd_fraction (mCons (mOp subD (mOp ixD (mOp ixD (mVar 3) (mVar 2)) (mVar 5)) (mOp ixD (mOp ixD (mVar 3) (mVar 6)) (mVar 5))) (mCons (mOp subD (mVar 2) (mVar 6)) mNil))) [6]) mNil)) mNil))))
    (mFrz 4 (mRet (mCall [.S] sd_least_of (mCons (mVar 4) mNil)))))))))
set_option maxHeartbeats 4000000 in
theorem walk_rate {f : Addr} {fd : FuncData} (F : Fun K "rate" "rate" s_rate f fd) {C_Card : Addr} {sd_least_of sd_greatest_of sd_fraction sd_step_sums sd_Card_size : DSp}
    {f_least_of : Addr} {fd_least_of : FuncData} (F_least_of : FnG P w K mg base 2 f_least_of fd_least_of ["fractions"] (spD K [.S] sd_least_of)) (g_least_of : mg "least_of" = some (.ref f_least_of)) (k_least_of : PySem.W.keepIn K (.ref f_least_of) = true) (b_least_of : Binds K fd_least_of ["fractions"] [])
    {f_greatest_of : Addr} {fd_greatest_of : FuncData} (F_greatest_of : FnG P w K mg base 2 f_greatest_of fd_greatest_of ["fractions"] (spD K [.S] sd_greatest_of)) (g_greatest_of : mg "greatest_of" = some (.ref f_greatest_of)) (k_greatest_of : PySem.W.keepIn K (.ref f_greatest_of) = true) (b_greatest_of : Binds K fd_greatest_of ["fractions"] [])
    {f_fraction : Addr} {fd_fraction : FuncData} (F_fraction : FnG P w K mg base 2 f_fraction fd_fraction ["numerator", "denominator"] (spD K [.S, .S] sd_fraction)) (g_fraction : mg "fraction" = some (.ref f_fraction)) (k_fraction : PySem.W.keepIn K (.ref f_fraction) = true) (b_fraction : Binds K fd_fraction ["numerator", "denominator"] [])
    {f_step_sums : Addr} {fd_step_sums : FuncData} (F_step_sums : FnG P w K mg base 3 f_step_sums fd_step_sums ["card", "count"] (spD K [.S, .S] sd_step_sums)) (g_step_sums : mg "step_sums" = some (.ref f_step_sums)) (k_step_sums : PySem.W.keepIn K (.ref f_step_sums) = true) (b_step_sums : Binds K fd_step_sums ["card", "count"] [])
    {f_Card_size : Addr} {fd_Card_size : FuncData} (F_Card_size : FnG P w K mg base 1 f_Card_size fd_Card_size ["self"] (spD K [.S] sd_Card_size)) (b_Card_size : Binds K fd_Card_size ["self"] []) {p_Card_size : Addr} (pr_Card_size : PropOf K C_Card "size" p_Card_size f_Card_size) (cl_Card : Cls K C_Card) (z_range : mg "range" = none)
    {sd : DSp} (hv : ∀ ds Qd Ed, ds.length = 2 → sd ds Qd Ed → m_rate C_Card sd_least_of sd_greatest_of sd_fraction sd_step_sums sd_Card_size (endsD [.S, .S] Qd) (startD ["card", "count", "size", "rows", "means", "end", "k"] [.S, .S] ds)) :
    FnG P w K mg base 4 f fd ["card", "count"] (spD K [.S, .S] sd) := by
  refine fn_dm (N := ["card", "count", "size", "rows", "means", "end", "k"]) F sc_rate rfl hv fun cdv A outer s H0 vs E O H hg hr => ?_
  have sc := sc_rate
  unfold m_rate
  exact ⟨_, (ds_cons (ds_set (de_prop cl_Card pr_Card_size F_Card_size hg (hr.mono (by decide)) b_Card_size (de_var 0 (pv 0))) (fun h => ps_set (i := 2) sc.nd rfl (by first | exact Or.inl rfl | exact Or.inr rfl) h))
    (ds_cons (ds_if (dt_in (room65 hr) (de_var 1 (pv 1)) (de_tup (da_cons de_int (da_cons (de_var 2 (pv 2)) da_nil))) (by rfl)) (ds_one (ds_ret (de_tup (da_cons de_int (da_cons de_int da_nil))))) ds_nil)
    (ds_cons (ds_set (de_call F_step_sums hg (hr.mono (by decide)) (by rfl) g_step_sums k_step_sums b_step_sums (da_cons (de_var 0 (pv 0)) (da_cons (de_var 1 (pv 1)) da_nil))) (fun h => ps_set (i := 3) sc.nd rfl (by first | exact Or.inl rfl | exact Or.inr rfl) h))
    (ds_cons (ds_setO (de_lst da_nil) (fun h => ps_set (i := 4) sc.nd rfl (by first | exact Or.inl rfl | exact Or.inr rfl) h))
    (ds_cons (ds_for PassesOwn.never rfl (di_rng1 (by rfl) z_range (da_cons (de_var 2 (pv 2)) da_nil)) (fun _ => (dg_name 5 (pg_name (i := 5) sc.nd rfl (by first | exact Or.inl rfl | exact Or.inr rfl)))) (fun _ => (ds_one (ds_expr (de_append (fun x y => pe_bm PySem.F.plainAttrs_list PySem.F.slot_list_append PySem.F.type_list_append mt_append x y) (de_var 4 (pv 4)) (da_cons (de_call F_greatest_of hg (hr.mono (by decide)) (by rfl) g_greatest_of k_greatest_of b_greatest_of (da_cons (de_comp (own := [("k", 6)]) ⟨rfl, sc.nd, (di_rng1 (by rfl) z_range (da_cons (de_var 2 (pv 2)) da_nil)), blkOk_by (own := [("k", 6)]) (N := ["card", "count", "size", "rows", "means", "end", "k"]) (sc := defScope s_rate) (by decide +kernel), (fun _ _ _ _ _ _ => (dg_name 6 (pg_name (i := 6) sc.nd rfl (by first | exact Or.inl rfl | exact Or.inr rfl)))), (own_name (by simp)), mono_name, (fun _ _ _ _ _ _ => df_nil), (fun _ _ _ _ _ _ => (de_call F_fraction hg (hr.mono (by decide)) (by rfl) g_fraction k_fraction b_fraction (da_cons (de_sub (de_ix (de_ix (de_var 3 (pv 3)) (de_var 2 (pv 2))) (de_var 5 (pv 5))) (de_ix (de_ix (de_var 3 (pv 3)) (de_var 6 (pv 6))) (de_var 5 (pv 5)))) (da_cons (de_sub (de_var 2 (pv 2)) (de_var 6 (pv 6))) da_nil))))⟩) da_nil)) da_nil))))))
    (dss_frz 4 (ds_one (ds_ret (de_call F_least_of hg (hr.mono (by decide)) (by rfl) g_least_of k_least_of b_least_of (da_cons (de_var 4 (pv 4)) da_nil))))))))))⟩
/-- Ring.ranks(self) -/
def m_Ring_ranks (C_Ring : Addr)  : DTS :=
    (mRet (mCB listD (mCons (mFld C_Ring "rank_list" (mVar 0)) mNil)))
set_option maxHeartbeats 4000000 in
theorem walk_Ring_ranks {f : Addr} {fd : FuncData} (F : Fun K "ranks" "Ring.ranks" s_Ring_ranks f fd) {C_Ring : Addr} (n_Ring_rank_list : NoAttr K C_Ring "rank_list") (cl_Ring : Cls K C_Ring) (z_list : mg "list" = none)
    {sd : DSp} (hv : ∀ ds Qd Ed, ds.length = 1 → sd ds Qd Ed → m_Ring_ranks C_Ring (endsD [.S] Qd) (startD ["self"] [.S] ds)) :
    FnG P w K mg base 1 f fd ["self"] (spD K [.S] sd) := by
  refine fn_dm (N := ["self"]) F sc_Ring_ranks rfl hv fun cdv A outer s H0 vs E O H hg hr => ?_
  have sc := sc_Ring_ranks
  unfold m_Ring_ranks
  exact ⟨_, (ds_one (ds_ret (de_list (by rfl) z_list (da_cons (de_fld cl_Ring n_Ring_rank_list (de_var 0 (pv 0))) da_nil))))⟩
/-- lap_rates(card, ring) -/
def m_lap_rates (C_Ring : Addr) (sd_Ring_ranks sd_fraction sd_rate : DSp) : DTS :=
    (mSeqS (mSetO 2 (mLst mNil))
    (mSeqS (mFor (mSeq (mCall [.S] sd_Ring_ranks (mSelf C_Ring "ranks" (mVar 1) mNil))) (mgName 3) (mSeqS (mPar (mPCons (mCB lenD (mCons (mComp (mSeq (mCall [.S] sd_Ring_ranks (mSelf C_Ring "ranks" (mVar 1) mNil))) (mgName 8) (mTest (mOp gtD (mVar 8) (mVar 3))) (mC (.int 1)) [8]) mNil)) (mPCons (mCount (mCall [.S] sd_Ring_ranks (mSelf C_Ring "ranks" (mVar 1) mNil)) (mVar 3)) mPNil)) (.sh 4 :: .sh 5 :: []))
    (mSeqS (mPar (mPCons (mCall [.S, .S] sd_rate (mCons (mVar 0) (mCons (mVar 4) mNil))) (mPCons (mCall [.S, .S] sd_rate (mCons (mVar 0) (mCons (mOp addD (mVar 4) (mVar 5)) mNil))) mPNil)) (.sh 6 :: .sh 7 :: []))
    (mDrop (mMut appendD (mVar 2) (mCons (mCall [.S, .S] sd_fraction (mCons (mOp subD (mOp mulD (mOp ixD (mVar 7) (mC (.int 0))) (mOp ixD (mVar 6) (mC (.int 1)))) (mOp mulD (mOp ixD (mVar 6) (mC (.int 0))) (mOp ixD (mVar 7) (mC (.int 1))))) (mCons (mOp mulD (mOp mulD (mOp ixD (mVar 7) (mC (.int 1))) (mOp ixD (mVar 6) (mC (.int 1)))) (mVar 5)) mNil))) mNil))))))
    (mRet (mVar 2))))
set_option maxHeartbeats 4000000 in
theorem walk_lap_rates {f : Addr} {fd : FuncData} (F : Fun K "lap_rates" "lap_rates" s_lap_rates f fd) {C_Ring : Addr} {sd_Ring_ranks sd_fraction sd_rate : DSp}
    {f_Ring_ranks : Addr} {fd_Ring_ranks : FuncData} (F_Ring_ranks : FnG P w K mg base 1 f_Ring_ranks fd_Ring_ranks ["self"] (spD K [.S] sd_Ring_ranks)) (b_Ring_ranks : Binds K fd_Ring_ranks ["self"] [])
    {f_fraction : Addr} {fd_fraction : FuncData} (F_fraction : FnG P w K mg base 2 f_fraction fd_fraction ["numerator", "denominator"] (spD K [.S, .S] sd_fraction)) (g_fraction : mg "fraction" = some (.ref f_fraction)) (k_fraction : PySem.W.keepIn K (.ref f_fraction) = true) (b_fraction : Binds K fd_fraction ["numerator", "denominator"] [])
    {f_rate : Addr} {fd_rate : FuncData} (F_rate : FnG P w K mg base 4 f_rate fd_rate ["card", "count"] (spD K [.S, .S] sd_rate)) (g_rate : mg "rate" = some (.ref f_rate)) (k_rate : PySem.W.keepIn K (.ref f_rate) = true) (b_rate : Binds K fd_rate ["card", "count"] []) (cl_Ring : Cls K C_Ring) (mt_Ring_ranks : Meth K C_Ring "ranks" f_Ring_ranks) (z_len : mg "len" = none)
    {sd : DSp} (hv : ∀ ds Qd Ed, ds.length = 2 → sd ds Qd Ed → m_lap_rates C_Ring sd_Ring_ranks sd_fraction sd_rate (endsD [.S, .S] Qd) (startD ["card", "ring", "found", "rank", "stronger", "several", "low", "high", "other"] [.S, .S] ds)) :
    FnG P w K mg base 5 f fd ["card", "ring"] (spD K [.S, .S] sd) := by
  refine fn_dm (N := ["card", "ring", "found", "rank", "stronger", "several", "low", "high", "other"]) F sc_lap_rates rfl hv fun cdv A outer s H0 vs E O H hg hr => ?_
  have sc := sc_lap_rates
  unfold m_lap_rates
  exact ⟨_, (ds_cons (ds_setO (de_lst da_nil) (fun h => ps_set (i := 2) sc.nd rfl (by first | exact Or.inl rfl | exact Or.inr rfl) h))
    (ds_cons (ds_for PassesOwn.never rfl (di_seq (de_meth0 cl_Ring mt_Ring_ranks F_Ring_ranks hg (hr.mono (by decide)) b_Ring_ranks (de_var 1 (pv 1)))) (fun _ => (dg_name 3 (pg_name (i := 3) sc.nd rfl (by first | exact Or.inl rfl | exact Or.inr rfl)))) (fun _ => (ds_cons (ds_par2 (fun h => ps_par (i := 4) (j := 5) rfl sc.nd rfl rfl (by decide) rfl rfl h (by rfl)) (dp_cons (de_len (by rfl) z_len (da_cons (de_comp (own := [("other", 8)]) ⟨rfl, sc.nd, (di_seq (de_meth0 cl_Ring mt_Ring_ranks F_Ring_ranks hg (hr.mono (by decide)) b_Ring_ranks (de_var 1 (pv 1)))), blkOk_by (own := [("other", 8)]) (N := ["card", "ring", "found", "rank", "stronger", "several", "low", "high", "other"]) (sc := defScope s_lap_rates) (by decide +kernel), (fun _ _ _ _ _ _ => (dg_name 8 (pg_name (i := 8) sc.nd rfl (by first | exact Or.inl rfl | exact Or.inr rfl)))), (own_name (by simp)), mono_name, (fun _ _ _ _ _ _ => (df_one (dt_cmp op_gt sim_gt (de_var 8 (pv 8)) (de_var 3 (pv 3)) (nomark _)))), (fun _ _ _ _ _ _ => de_int)⟩) da_nil)) (fun _ => (dp_cons (de_count (de_meth0 cl_Ring mt_Ring_ranks F_Ring_ranks hg (hr.mono (by decide)) b_Ring_ranks (de_var 1 (pv 1))) (de_var 3 (pv 3))) (fun _ => dp_nil)))) (sim_tsh (sim_tsh sim_tnil 5) 4))
    (ds_cons (ds_par2 (fun h => ps_par (i := 6) (j := 7) rfl sc.nd rfl rfl (by decide) rfl rfl h (by rfl)) (dp_cons (de_call F_rate hg (hr.mono (by decide)) (by rfl) g_rate k_rate b_rate (da_cons (de_var 0 (pv 0)) (da_cons (de_var 4 (pv 4)) da_nil))) (fun _ => (dp_cons (de_call F_rate hg (hr.mono (by decide)) (by rfl) g_rate k_rate b_rate (da_cons (de_var 0 (pv 0)) (da_cons (de_add (de_var 4 (pv 4)) (de_var 5 (pv 5))) da_nil))) (fun _ => dp_nil)))) (sim_tsh (sim_tsh sim_tnil 7) 6))
    (ds_one (ds_expr (de_append (fun x y => pe_bm PySem.F.plainAttrs_list PySem.F.slot_list_append PySem.F.type_list_append mt_append x y) (de_var 2 (pv 2)) (da_cons (de_call F_fraction hg (hr.mono (by decide)) (by rfl) g_fraction k_fraction b_fraction (da_cons (de_sub (de_mul (de_ix (de_var 7 (pv 7)) de_int) (de_ix (de_var 6 (pv 6)) de_int)) (de_mul (de_ix (de_var 6 (pv 6)) de_int) (de_ix (de_var 7 (pv 7)) de_int))) (da_cons (de_mul (de_mul (de_ix (de_var 7 (pv 7)) de_int) (de_ix (de_var 6 (pv 6)) de_int)) (de_var 5 (pv 5))) da_nil))) da_nil))))))))
    (ds_one (ds_ret (de_var 2 (pv 2))))))⟩
/-- Ring.__init__(self, ranks) -/
def m_Ring___init__ (C_Ring : Addr) (sd_is_integer sd_is_size : DSp) : DTS :=
    (mSeqS (mIfS (mOr (mNot (mTest (mIsi "list" (mVar 1)))) (mOr (mNot (mTest (mCall [.S] sd_is_size (mCons (mCB lenD (mCons (mVar 1) mNil)) mNil)))) (mNot (mTest (mCB allD (mCons (mComp (mSeq (mVar 1)) (mgName 2) mYes (mCall [.S] sd_is_integer (mCons (mVar 2) mNil)) [2]) mNil)))))) mNeverS mNext)
    (mSetF C_Ring "rank_list" (mVar 0) (mCB listD (mCons (mVar 1) mNil))))
set_option maxHeartbeats 4000000 in
theorem walk_Ring___init__ {f : Addr} {fd : FuncData} (F : Fun K "__init__" "Ring.__init__" s_Ring___init__ f fd) {C_Ring : Addr} {sd_is_integer sd_is_size : DSp}
    {f_is_integer : Addr} {fd_is_integer : FuncData} (F_is_integer : FnG P w K mg base 1 f_is_integer fd_is_integer ["thing"] (spD K [.S] sd_is_integer)) (g_is_integer : mg "is_integer" = some (.ref f_is_integer)) (k_is_integer : PySem.W.keepIn K (.ref f_is_integer) = true) (b_is_integer : Binds K fd_is_integer ["thing"] [])
    {f_is_size : Addr} {fd_is_size : FuncData} (F_is_size : FnG P w K mg base 3 f_is_size fd_is_size ["thing"] (spD K [.S] sd_is_size)) (g_is_size : mg "is_size" = some (.ref f_is_size)) (k_is_size : PySem.W.keepIn K (.ref f_is_size) = true) (b_is_size : Binds K fd_is_size ["thing"] []) (n_Ring_rank_list : NoAttr K C_Ring "rank_list") (cl_Ring : Cls K C_Ring) (z_list : mg "list" = none) (z_all : mg "all" = none) (z_len : mg "len" = none) (z_isinstance : mg "isinstance" = none)
    {sd : DSp} (hv : ∀ ds Qd Ed, ds.length = 2 → sd ds Qd Ed → m_Ring___init__ C_Ring sd_is_integer sd_is_size (endsD [.M, .S] Qd) (startD ["self", "ranks", "rank"] [.M, .S] ds)) :
    FnG P w K mg base 4 f fd ["self", "ranks"] (spD K [.M, .S] sd) := by
  refine fn_dm (N := ["self", "ranks", "rank"]) F sc_Ring___init__ rfl hv fun cdv A outer s H0 vs E O H hg hr => ?_
  have sc := sc_Ring___init__
  unfold m_Ring___init__
  exact ⟨_, (ds_cons (ds_if (dw_pt (dw_or (dt_not (dt_val (de_isi (T := "list") (by simp) (by rfl) z_isinstance (de_var 1 (pv 1)) (pe_bltn (by rfl) z_list (by decide +kernel) rfl)))) (dw_or (dt_not (dt_val (de_call F_is_size hg (hr.mono (by decide)) (by rfl) g_is_size k_is_size b_is_size (da_cons (de_len (by rfl) z_len (da_cons (de_var 1 (pv 1)) da_nil)) da_nil)))) (dw_or1 (dt_not (dt_val (de_all rfl (by rfl) z_all (da_cons (de_comp (own := [("rank", 2)]) ⟨rfl, sc.nd, (di_seq (de_var 1 (pv 1))), blkOk_by (own := [("rank", 2)]) (N := ["self", "ranks", "rank"]) (sc := defScope s_Ring___init__) (by decide +kernel), (fun _ _ _ _ _ _ => (dg_name 2 (pg_name (i := 2) sc.nd rfl (by first | exact Or.inl rfl | exact Or.inr rfl)))), (own_name (by simp)), mono_name, (fun _ _ _ _ _ _ => df_nil), (fun _ _ _ _ _ _ => (de_call F_is_integer hg (hr.mono (by decide)) (by rfl) g_is_integer k_is_integer b_is_integer (da_cons (de_var 2 (pv 2)) da_nil)))⟩) da_nil)))))))) (ds_one ds_never) ds_nil)
    (ds_one (ds_fld cl_Ring n_Ring_rank_list (de_var 0 (pv 0)) (de_list (by rfl) z_list (da_cons (de_var 1 (pv 1)) da_nil)))))⟩
/-- Ring.block(cls, size, count, last) -/
def m_Ring_block (C_Ring : Addr) (sd_Ring___init__ : DSp) : DTS :=
    (mSeqS (mSet 4 (mComp (mRng1 (mCons (mVar 2) mNil)) (mgName 5) mYes (mOp modD (mOp subD (mVar 3) (mVar 5)) (mVar 1)) [5]))
    (mRet (mMakeL 0 C_Ring [.S] sd_Ring___init__ (mCons (mComp (mRng1 (mCons (mVar 1) mNil)) (mgName 6) mYes (mCB intD (mCons (mOp inD (mVar 6) (mVar 4)) mNil)) [6]) mNil))))
set_option maxHeartbeats 4000000 in
theorem walk_Ring_block {f : Addr} {fd : FuncData} (F : Fun K "block" "Ring.block" s_Ring_block f fd) {C_Ring : Addr} {sd_Ring___init__ : DSp}
    {f_Ring___init__ : Addr} {fd_Ring___init__ : FuncData} (F_Ring___init__ : FnG P w K mg base 4 f_Ring___init__ fd_Ring___init__ ["self", "ranks"] (spD K [.M, .S] sd_Ring___init__)) (b_Ring___init__ : Binds K fd_Ring___init__ ["self", "ranks"] []) (mk_Ring : Mk K C_Ring f_Ring___init__) (z_range : mg "range" = none) (z_int : mg "int" = none)
    {sd : DSp} (hv : ∀ ds Qd Ed, ds.length = 4 → sd ds Qd Ed → m_Ring_block C_Ring sd_Ring___init__ (endsD [.S, .S, .S, .S] Qd) (startD ["cls", "size", "count", "last", "strong", "step", "place"] [.S, .S, .S, .S] ds)) :
    FnG P w K mg base 6 f fd ["cls", "size", "count", "last"] (spD K [.S, .S, .S, .S] sd) := by
  refine fn_dm (N := ["cls", "size", "count", "last", "strong", "step", "place"]) F sc_Ring_block rfl hv fun cdv A outer s H0 vs E O H hg hr => ?_
  have sc := sc_Ring_block
  unfold m_Ring_block
  exact ⟨_, (ds_cons (ds_set (de_comp (own := [("step", 5)]) ⟨rfl, sc.nd, (di_rng1 (by rfl) z_range (da_cons (de_var 2 (pv 2)) da_nil)), blkOk_by (own := [("step", 5)]) (N := ["cls", "size", "count", "last", "strong", "step", "place"]) (sc := defScope s_Ring_block) (by decide +kernel), (fun _ _ _ _ _ _ => (dg_name 5 (pg_name (i := 5) sc.nd rfl (by first | exact Or.inl rfl | exact Or.inr rfl)))), (own_name (by simp)), mono_name, (fun _ _ _ _ _ _ => df_nil), (fun _ _ _ _ _ _ => (de_mod (de_sub (de_var 3 (pv 3)) (de_var 5 (pv 5))) (de_var 1 (pv 1))))⟩) (fun h => ps_set (i := 4) sc.nd rfl (by first | exact Or.inl rfl | exact Or.inr rfl) h))
    (ds_one (ds_ret (de_makeL (i := 0) mk_Ring F_Ring___init__ hg (hr.mono (by decide)) b_Ring___init__ (da_cons (de_comp (own := [("place", 6)]) ⟨rfl, sc.nd, (di_rng1 (by rfl) z_range (da_cons (de_var 1 (pv 1)) da_nil)), blkOk_by (own := [("place", 6)]) (N := ["cls", "size", "count", "last", "strong", "step", "place"]) (sc := defScope s_Ring_block) (by decide +kernel), (fun _ _ _ _ _ _ => (dg_name 6 (pg_name (i := 6) sc.nd rfl (by first | exact Or.inl rfl | exact Or.inr rfl)))), (own_name (by simp)), mono_name, (fun _ _ _ _ _ _ => df_nil), (fun _ _ _ _ _ _ => (de_intc (by rfl) z_int (da_cons (de_in (room65 hr) (de_var 6 (pv 6)) (de_var 4 (pv 4)) (by rfl)) da_nil)))⟩) da_nil)))))⟩
/-- Ring.size(self) -/
def m_Ring_size (C_Ring : Addr)  : DTS :=
    (mRet (mCB lenD (mCons (mFld C_Ring "rank_list" (mVar 0)) mNil)))
set_option maxHeartbeats 4000000 in
theorem walk_Ring_size {f : Addr} {fd : FuncData} (F : Fun K "size" "Ring.size" s_Ring_size f fd) {C_Ring : Addr} (n_Ring_rank_list : NoAttr K C_Ring "rank_list") (cl_Ring : Cls K C_Ring) (z_len : mg "len" = none)
    {sd : DSp} (hv : ∀ ds Qd Ed, ds.length = 1 → sd ds Qd Ed → m_Ring_size C_Ring (endsD [.S] Qd) (startD ["self"] [.S] ds)) :
    FnG P w K mg base 1 f fd ["self"] (spD K [.S] sd) := by
  refine fn_dm (N := ["self"]) F sc_Ring_size rfl hv fun cdv A outer s H0 vs E O H hg hr => ?_
  have sc := sc_Ring_size
  unfold m_Ring_size
  exact ⟨_, (ds_one (ds_ret (de_len (by rfl) z_len (da_cons (de_fld cl_Ring n_Ring_rank_list (de_var 0 (pv 0))) da_nil))))⟩
/-- Ring.strong(self, bound) -/
def m_Ring_strong (C_Ring : Addr)  : DTS :=
    (mRet (mComp (mEnum (mFld C_Ring "rank_list" (mVar 0))) (mgTup 2 (mgCons (mgName 2) (mgCons (mgName 3) mgNil))) (mTest (mOp geD (mVar 3) (mVar 1))) (mVar 2) [2, 3]))
set_option maxHeartbeats 4000000 in
theorem walk_Ring_strong {f : Addr} {fd : FuncData} (F : Fun K "strong" "Ring.strong" s_Ring_strong f fd) {C_Ring : Addr} (n_Ring_rank_list : NoAttr K C_Ring "rank_list") (cl_Ring : Cls K C_Ring) (z_enumerate : mg "enumerate" = none)
    {sd : DSp} (hv : ∀ ds Qd Ed, ds.length = 2 → sd ds Qd Ed → m_Ring_strong C_Ring (endsD [.S, .S] Qd) (startD ["self", "bound", "place", "rank"] [.S, .S] ds)) :
    FnG P w K mg base 1 f fd ["self", "bound"] (spD K [.S, .S] sd) := by
  refine fn_dm (N := ["self", "bound", "place", "rank"]) F sc_Ring_strong rfl hv fun cdv A outer s H0 vs E O H hg hr => ?_
  have sc := sc_Ring_strong
  unfold m_Ring_strong
  exact ⟨_, (ds_one (ds_ret (de_comp (own := [("place", 2), ("rank", 3)]) ⟨rfl, sc.nd, (di_enum (by rfl) z_enumerate (de_fld cl_Ring n_Ring_rank_list (de_var 0 (pv 0)))), blkOk_by (own := [("place", 2), ("rank", 3)]) (N := ["self", "bound", "place", "rank"]) (sc := defScope s_Ring_strong) (by decide +kernel), (fun _ _ _ _ _ _ => (dg_tup rfl (dgs_cons (dg_name 2 (pg_name (i := 2) sc.nd rfl (by first | exact Or.inl rfl | exact Or.inr rfl))) (dgs_cons (dg_name 3 (pg_name (i := 3) sc.nd rfl (by first | exact Or.inl rfl | exact Or.inr rfl))) dgs_nil)))), (own_tup (own_cons (own_name (by simp)) mono_name (mono_cons mono_name mono_nil) (own_cons (own_name (by simp)) mono_name mono_nil own_nil))), (mono_tup (mono_cons mono_name (mono_cons mono_name mono_nil))), (fun _ _ _ _ _ _ => (df_one (dt_cmp op_ge sim_ge (de_var 3 (pv 3)) (de_var 1 (pv 1)) (nomark _)))), (fun _ _ _ _ _ _ => (de_var 2 (pv 2)))⟩)))⟩
/-- Ring.up_to(self, bound, gap) -/
def m_Ring_up_to (C_Ring : Addr) (sd_Ring_strong sd_Ring_size : DSp) : DTS :=
    (mSeqS (mAsg (mCB divmodD (mCons (mVar 2) (mCons (mCall [.S] sd_Ring_size (mSelf1 C_Ring (mVar 0))) mNil))) (mgTup 2 (mgCons (mgName 4) (mgCons (mgName 5) mgNil))))
    (mSeqS (mSet 3 (mCall [.S, .S] sd_Ring_strong (mSelf C_Ring "strong" (mVar 0) (mCons (mVar 1) mNil))))
    (mRet (mOp addD (mOp mulD (mVar 4) (mCB lenD (mCons (mVar 3) mNil))) (mCB lenD (mCons (mComp (mSeq (mVar 3)) (mgName 6) (mTest (mOp leD (mVar 6) (mVar 5))) (mVar 6) [6]) mNil))))))
set_option maxHeartbeats 4000000 in
theorem walk_Ring_up_to {f : Addr} {fd : FuncData} (F : Fun K "up_to" "Ring.up_to" s_Ring_up_to f fd) {C_Ring : Addr} {sd_Ring_strong sd_Ring_size : DSp}
    {f_Ring_strong : Addr} {fd_Ring_strong : FuncData} (F_Ring_strong : FnG P w K mg base 1 f_Ring_strong fd_Ring_strong ["self", "bound"] (spD K [.S, .S] sd_Ring_strong)) (b_Ring_strong : Binds K fd_Ring_strong ["self", "bound"] [])
    {f_Ring_size : Addr} {fd_Ring_size : FuncData} (F_Ring_size : FnG P w K mg base 1 f_Ring_size fd_Ring_size ["self"] (spD K [.S] sd_Ring_size)) (b_Ring_size : Binds K fd_Ring_size ["self"] []) (cl_Ring : Cls K C_Ring) (mt_Ring_strong : Meth K C_Ring "strong" f_Ring_strong) {p_Ring_size : Addr} (pr_Ring_size : PropOf K C_Ring "size" p_Ring_size f_Ring_size) (z_len : mg "len" = none) (z_divmod : mg "divmod" = none)
    {sd : DSp} (hv : ∀ ds Qd Ed, ds.length = 3 → sd ds Qd Ed → m_Ring_up_to C_Ring sd_Ring_strong sd_Ring_size (endsD [.S, .S, .S] Qd) (startD ["self", "bound", "gap", "strong", "laps", "place", "other"] [.S, .S, .S] ds)) :
    FnG P w K mg base 3 f fd ["self", "bound", "gap"] (spD K [.S, .S, .S] sd) := by
  refine fn_dm (N := ["self", "bound", "gap", "strong", "laps", "place", "other"]) F sc_Ring_up_to rfl hv fun cdv A outer s H0 vs E O H hg hr => ?_
  have sc := sc_Ring_up_to
  unfold m_Ring_up_to
  exact ⟨_, (ds_cons (ds_asg (de_divmod (by rfl) z_divmod (da_cons (de_var 2 (pv 2)) (da_cons (de_prop cl_Ring pr_Ring_size F_Ring_size hg (hr.mono (by decide)) b_Ring_size (de_var 0 (pv 0))) da_nil))) (dg_tup rfl (dgs_cons (dg_name 4 (pg_name (i := 4) sc.nd rfl (by first | exact Or.inl rfl | exact Or.inr rfl))) (dgs_cons (dg_name 5 (pg_name (i := 5) sc.nd rfl (by first | exact Or.inl rfl | exact Or.inr rfl))) dgs_nil))))
    (ds_cons (ds_set (de_meth cl_Ring mt_Ring_strong F_Ring_strong hg (hr.mono (by decide)) b_Ring_strong (de_var 0 (pv 0)) (da_cons (de_var 1 (pv 1)) da_nil)) (fun h => ps_set (i := 3) sc.nd rfl (by first | exact Or.inl rfl | exact Or.inr rfl) h))
    (ds_one (ds_ret (de_add (de_mul (de_var 4 (pv 4)) (de_len (by rfl) z_len (da_cons (de_var 3 (pv 3)) da_nil))) (de_len (by rfl) z_len (da_cons (de_comp (own := [("other", 6)]) ⟨rfl, sc.nd, (di_seq (de_var 3 (pv 3))), blkOk_by (own := [("other", 6)]) (N := ["self", "bound", "gap", "strong", "laps", "place", "other"]) (sc := defScope s_Ring_up_to) (by decide +kernel), (fun _ _ _ _ _ _ => (dg_name 6 (pg_name (i := 6) sc.nd rfl (by first | exact Or.inl rfl | exact Or.inr rfl)))), (own_name (by simp)), mono_name, (fun _ _ _ _ _ _ => (df_one (dt_cmp op_le sim_le (de_var 6 (pv 6)) (de_var 5 (pv 5)) (nomark _)))), (fun _ _ _ _ _ _ => (de_var 6 (pv 6)))⟩) da_nil)))))))⟩
/-- levels_after(levels, count, schedule) -/
def m_levels_after  : DTS :=
    (mSeqS (mPar (mPCons (mCB lenD (mCons (mVar 0) mNil)) (mPCons (mCB listD (mCons (mVar 0) mNil)) mPNil)) (.sh 4 :: .ow 5 :: []))
    (mSeqS (mFor (mSeq (mVar 2)) (mgName 3) (mSeqS (mSet 6 (mIf (mTest (mOp gtD (mVar 3) (mC (.int 0)))) (mOp ixD (mVar 5) (mOp subD (mVar 3) (mC (.int 1)))) (mOp addD (mOp ixD (mVar 5) (mUn negD (mC (.int 1)))) (mVar 1))))
    (mSeqS (mSet 7 (mIf (mTest (mOp ltD (mVar 3) (mOp subD (mVar 4) (mC (.int 1))))) (mOp ixD (mVar 5) (mOp addD (mVar 3) (mC (.int 1)))) (mOp subD (mOp ixD (mVar 5) (mC (.int 0))) (mVar 1))))
    (mAsg (mCB minD (mCons (mVar 6) (mCons (mOp addD (mVar 7) (mC (.int 1))) mNil))) (mgSub (mVar 5) (mVar 3) stD)))))
    (mRet (mVar 5))))
set_option maxHeartbeats 4000000 in
theorem walk_levels_after {f : Addr} {fd : FuncData} (F : Fun K "levels_after" "levels_after" s_levels_after f fd) (z_min : mg "min" = none) (z_list : mg "list" = none) (z_len : mg "len" = none)
    {sd : DSp} (hv : ∀ ds Qd Ed, ds.length = 3 → sd ds Qd Ed → m_levels_after (endsD [.S, .S, .S] Qd) (startD ["levels", "count", "schedule", "gap", "size", "now", "before", "after"] [.S, .S, .S] ds)) :
    FnG P w K mg base 1 f fd ["levels", "count", "schedule"] (spD K [.S, .S, .S] sd) := by
  refine fn_dm (N := ["levels", "count", "schedule", "gap", "size", "now", "before", "after"]) F sc_levels_after rfl hv fun cdv A outer s H0 vs E O H hg hr => ?_
  have sc := sc_levels_after
  unfold m_levels_after
  exact ⟨_, (ds_cons (ds_par2 (fun h => ps_par (i := 4) (j := 5) rfl sc.nd rfl rfl (by decide) rfl rfl h (by rfl)) (dp_cons (de_len (by rfl) z_len (da_cons (de_var 0 (pv 0)) da_nil)) (fun _ => (dp_cons (de_list (by rfl) z_list (da_cons (de_var 0 (pv 0)) da_nil)) (fun _ => dp_nil)))) (sim_tsh (sim_tow sim_tnil 5) 4))
    (ds_cons (ds_for PassesOwn.never rfl (di_seq (de_var 2 (pv 2))) (fun _ => (dg_name 3 (pg_name (i := 3) sc.nd rfl (by first | exact Or.inl rfl | exact Or.inr rfl)))) (fun _ => (ds_cons (ds_set (de_if (dt_cmp op_gt sim_gt (de_var 3 (pv 3)) de_int (nomark _)) (de_ix (de_var 5 (pv 5)) (de_sub (de_var 3 (pv 3)) de_int)) (de_add (de_ix (de_var 5 (pv 5)) (de_neg de_int)) (de_var 1 (pv 1)))) (fun h => ps_set (i := 6) sc.nd rfl (by first | exact Or.inl rfl | exact Or.inr rfl) h))
    (ds_cons (ds_set (de_if (dt_cmp op_lt sim_lt (de_var 3 (pv 3)) (de_sub (de_var 4 (pv 4)) de_int) (nomark _)) (de_ix (de_var 5 (pv 5)) (de_add (de_var 3 (pv 3)) de_int)) (de_sub (de_ix (de_var 5 (pv 5)) de_int) (de_var 1 (pv 1)))) (fun h => ps_set (i := 7) sc.nd rfl (by first | exact Or.inl rfl | exact Or.inr rfl) h))
    (ds_one (ds_asg (de_min rfl (by rfl) z_min (da_cons (de_var 6 (pv 6)) (da_cons (de_add (de_var 7 (pv 7)) de_int) da_nil))) (dg_sub (fun a b => pg_sub a b set_list) (de_var 5 (pv 5)) (de_var 3 (pv 3)))))))))
    (ds_one (ds_ret (de_var 5 (pv 5))))))⟩
/-- block_values(size, count, begin, schedule) -/
def m_block_values (C_Ring : Addr) (sd_Ring_up_to sd_levels_after sd_Ring_block : DSp) : DTS :=
    (mSeqS (mSet 4 (mCall [.S, .S, .S, .S] sd_Ring_block (mCls C_Ring (mCons (mVar 0) (mCons (mVar 1) (mCons (mVar 2) mNil))))))
    (mSeqS (mSet 5 (mCall [.S, .S, .S] sd_levels_after (mCons (mComp (mRng1 (mCons (mVar 0) mNil)) (mgName 7) mYes (mOp subD (mC (.int 0)) (mCall [.S, .S, .S] sd_Ring_up_to (mSelf C_Ring "up_to" (mVar 4) (mCons (mC (.int 1)) (mCons (mVar 7) mNil))))) [7]) (mCons (mVar 1) (mCons (mVar 3) mNil)))))
    (mRet (mComp (mSeq (mVar 5)) (mgName 6) mYes (mOp addD (mVar 6) (mCall [.S, .S, .S] sd_Ring_up_to (mSelf C_Ring "up_to" (mVar 4) (mCons (mC (.int 1)) (mCons (mVar 2) mNil))))) [6]))))
set_option maxHeartbeats 4000000 in
theorem walk_block_values {f : Addr} {fd : FuncData} (F : Fun K "block_values" "block_values" s_block_values f fd) {C_Ring : Addr} {sd_Ring_up_to sd_levels_after sd_Ring_block : DSp}
    {f_Ring_up_to : Addr} {fd_Ring_up_to : FuncData} (F_Ring_up_to : FnG P w K mg base 3 f_Ring_up_to fd_Ring_up_to ["self", "bound", "gap"] (spD K [.S, .S, .S] sd_Ring_up_to)) (b_Ring_up_to : Binds K fd_Ring_up_to ["self", "bound", "gap"] [])
    {f_levels_after : Addr} {fd_levels_after : FuncData} (F_levels_after : FnG P w K mg base 1 f_levels_after fd_levels_after ["levels", "count", "schedule"] (spD K [.S, .S, .S] sd_levels_after)) (g_levels_after : mg "levels_after" = some (.ref f_levels_after)) (k_levels_after : PySem.W.keepIn K (.ref f_levels_after) = true) (b_levels_after : Binds K fd_levels_after ["levels", "count", "schedule"] [])
    {f_Ring_block : Addr} {fd_Ring_block : FuncData} (F_Ring_block : FnG P w K mg base 6 f_Ring_block fd_Ring_block ["cls", "size", "count", "last"] (spD K [.S, .S, .S, .S] sd_Ring_block)) (b_Ring_block : Binds K fd_Ring_block ["cls", "size", "count", "last"] []) (cl_Ring : Cls K C_Ring) (mt_Ring_up_to : Meth K C_Ring "up_to" f_Ring_up_to) {q_Ring_block : Addr} {mc_Ring_block : Value} (cr_Ring : ClX.CRead K C_Ring mc_Ring_block) (cm_Ring_block : ClX.CMet K C_Ring mc_Ring_block "block" q_Ring_block f_Ring_block) (g_Ring : mg "Ring" = some (.ref C_Ring)) (z_range : mg "range" = none)
    {sd : DSp} (hv : ∀ ds Qd Ed, ds.length = 4 → sd ds Qd Ed → m_block_values C_Ring sd_Ring_up_to sd_levels_after sd_Ring_block (endsD [.S, .S, .S, .S] Qd) (startD ["size", "count", "begin", "schedule", "block", "levels", "level", "gap"] [.S, .S, .S, .S] ds)) :
    FnG P w K mg base 7 f fd ["size", "count", "begin", "schedule"] (spD K [.S, .S, .S, .S] sd) := by
  refine fn_dm (N := ["size", "count", "begin", "schedule", "block", "levels", "level", "gap"]) F sc_block_values rfl hv fun cdv A outer s H0 vs E O H hg hr => ?_
  have sc := sc_block_values
  unfold m_block_values
  exact ⟨_, (ds_cons (ds_set (de_cmeth cr_Ring cm_Ring_block F_Ring_block hg (hr.mono (by decide)) b_Ring_block (pe_cls (by rfl) g_Ring) (da_cons (de_var 0 (pv 0)) (da_cons (de_var 1 (pv 1)) (da_cons (de_var 2 (pv 2)) da_nil)))) (fun h => ps_set (i := 4) sc.nd rfl (by first | exact Or.inl rfl | exact Or.inr rfl) h))
    (ds_cons (ds_set (de_call F_levels_after hg (hr.mono (by decide)) (by rfl) g_levels_after k_levels_after b_levels_after (da_cons (de_comp (own := [("gap", 7)]) ⟨rfl, sc.nd, (di_rng1 (by rfl) z_range (da_cons (de_var 0 (pv 0)) da_nil)), blkOk_by (own := [("gap", 7)]) (N := ["size", "count", "begin", "schedule", "block", "levels", "level", "gap"]) (sc := defScope s_block_values) (by decide +kernel), (fun _ _ _ _ _ _ => (dg_name 7 (pg_name (i := 7) sc.nd rfl (by first | exact Or.inl rfl | exact Or.inr rfl)))), (own_name (by simp)), mono_name, (fun _ _ _ _ _ _ => df_nil), (fun _ _ _ _ _ _ => (de_sub de_int (de_meth cl_Ring mt_Ring_up_to F_Ring_up_to hg (hr.mono (by decide)) b_Ring_up_to (de_var 4 (pv 4)) (da_cons de_int (da_cons (de_var 7 (pv 7)) da_nil)))))⟩) (da_cons (de_var 1 (pv 1)) (da_cons (de_var 3 (pv 3)) da_nil)))) (fun h => ps_set (i := 5) sc.nd rfl (by first | exact Or.inl rfl | exact Or.inr rfl) h))
    (ds_one (ds_ret (de_comp (own := [("level", 6)]) ⟨rfl, sc.nd, (di_seq (de_var 5 (pv 5))), blkOk_by (own := [("level", 6)]) (N := ["size", "count", "begin", "schedule", "block", "levels", "level", "gap"]) (sc := defScope s_block_values) (by decide +kernel), (fun _ _ _ _ _ _ => (dg_name 6 (pg_name (i := 6) sc.nd rfl (by first | exact Or.inl rfl | exact Or.inr rfl)))), (own_name (by simp)), mono_name, (fun _ _ _ _ _ _ => df_nil), (fun _ _ _ _ _ _ => (de_add (de_var 6 (pv 6)) (de_meth cl_Ring mt_Ring_up_to F_Ring_up_to hg (hr.mono (by decide)) b_Ring_up_to (de_var 4 (pv 4)) (da_cons de_int (da_cons (de_var 2 (pv 2)) da_nil)))))⟩)))))⟩
/-- Card.__init__(self, places, tables) -/
def m_Card___init__ (C_Card : Addr)  : DTS :=
    (mSeqS (mSetF C_Card "places" (mVar 0) (mVar 1))
    (mSetF C_Card "tables" (mVar 0) (mVar 2)))
set_option maxHeartbeats 4000000 in
theorem walk_Card___init__ {f : Addr} {fd : FuncData} (F : Fun K "__init__" "Card.__init__" s_Card___init__ f fd) {C_Card : Addr} (n_Card_tables : NoAttr K C_Card "tables") (cl_Card : Cls K C_Card) (n_Card_places : NoAttr K C_Card "places")
    {sd : DSp} (hv : ∀ ds Qd Ed, ds.length = 3 → sd ds Qd Ed → m_Card___init__ C_Card (endsD [.M, .S, .S] Qd) (startD ["self", "places", "tables"] [.M, .S, .S] ds)) :
    FnG P w K mg base 1 f fd ["self", "places", "tables"] (spD K [.M, .S, .S] sd) := by
  refine fn_dm (N := ["self", "places", "tables"]) F sc_Card___init__ rfl hv fun cdv A outer s H0 vs E O H hg hr => ?_
  have sc := sc_Card___init__
  unfold m_Card___init__
  exact ⟨_, (ds_cons (ds_fld cl_Card n_Card_places (de_var 0 (pv 0)) (de_var 1 (pv 1)))
    (ds_one (ds_fld cl_Card n_Card_tables (de_var 0 (pv 0)) (de_var 2 (pv 2)))))⟩
/-- card_of(size, schedule) -/
def m_card_of (C_Card : Addr) (sd_Card___init__ sd_block_values : DSp) : DTS :=
    (mSeqS (mSetO 2 (mLst mNil))
    (mSeqS (mFor (mRng2 (mCons (mC (.int 1)) (mCons (mVar 0) mNil))) (mgName 3) (mDrop (mMut appendD (mVar 2) (mCons (mComp (mRng1 (mCons (mVar 0) mNil)) (mgName 4) mYes (mCall [.S, .S, .S, .S] sd_block_values (mCons (mVar 0) (mCons (mVar 3) (mCons (mVar 4) (mCons (mVar 1) mNil))))) [4]) mNil))))
    (mFrz 2 (mRet (mMake C_Card [.S, .S] sd_Card___init__ (mCons (mVar 0) (mCons (mVar 2) mNil)))))))
set_option maxHeartbeats 4000000 in
theorem walk_card_of {f : Addr} {fd : FuncData} (F : Fun K "card_of" "card_of" s_card_of f fd) {C_Card : Addr} {sd_Card___init__ sd_block_values : DSp}
    {f_Card___init__ : Addr} {fd_Card___init__ : FuncData} (F_Card___init__ : FnG P w K mg base 1 f_Card___init__ fd_Card___init__ ["self", "places", "tables"] (spD K [.M, .S, .S] sd_Card___init__)) (b_Card___init__ : Binds K fd_Card___init__ ["self", "places", "tables"] [])
    {f_block_values : Addr} {fd_block_values : FuncData} (F_block_values : FnG P w K mg base 7 f_block_values fd_block_values ["size", "count", "begin", "schedule"] (spD K [.S, .S, .S, .S] sd_block_values)) (g_block_values : mg "block_values" = some (.ref f_block_values)) (k_block_values : PySem.W.keepIn K (.ref f_block_values) = true) (b_block_values : Binds K fd_block_values ["size", "count", "begin", "schedule"] []) (mk_Card : Mk K C_Card f_Card___init__) (g_Card : mg "Card" = some (.ref C_Card)) (z_range : mg "range" = none)
    {sd : DSp} (hv : ∀ ds Qd Ed, ds.length = 2 → sd ds Qd Ed → m_card_of C_Card sd_Card___init__ sd_block_values (endsD [.S, .S] Qd) (startD ["size", "schedule", "tables", "count", "begin"] [.S, .S] ds)) :
    FnG P w K mg base 8 f fd ["size", "schedule"] (spD K [.S, .S] sd) := by
  refine fn_dm (N := ["size", "schedule", "tables", "count", "begin"]) F sc_card_of rfl hv fun cdv A outer s H0 vs E O H hg hr => ?_
  have sc := sc_card_of
  unfold m_card_of
  exact ⟨_, (ds_cons (ds_setO (de_lst da_nil) (fun h => ps_set (i := 2) sc.nd rfl (by first | exact Or.inl rfl | exact Or.inr rfl) h))
    (ds_cons (ds_for PassesOwn.never rfl (di_rng2 (by rfl) z_range (da_cons de_int (da_cons (de_var 0 (pv 0)) da_nil))) (fun _ => (dg_name 3 (pg_name (i := 3) sc.nd rfl (by first | exact Or.inl rfl | exact Or.inr rfl)))) (fun _ => (ds_one (ds_expr (de_append (fun x y => pe_bm PySem.F.plainAttrs_list PySem.F.slot_list_append PySem.F.type_list_append mt_append x y) (de_var 2 (pv 2)) (da_cons (de_comp (own := [("begin", 4)]) ⟨rfl, sc.nd, (di_rng1 (by rfl) z_range (da_cons (de_var 0 (pv 0)) da_nil)), blkOk_by (own := [("begin", 4)]) (N := ["size", "schedule", "tables", "count", "begin"]) (sc := defScope s_card_of) (by decide +kernel), (fun _ _ _ _ _ _ => (dg_name 4 (pg_name (i := 4) sc.nd rfl (by first | exact Or.inl rfl | exact Or.inr rfl)))), (own_name (by simp)), mono_name, (fun _ _ _ _ _ _ => df_nil), (fun _ _ _ _ _ _ => (de_call F_block_values hg (hr.mono (by decide)) (by rfl) g_block_values k_block_values b_block_values (da_cons (de_var 0 (pv 0)) (da_cons (de_var 3 (pv 3)) (da_cons (de_var 4 (pv 4)) (da_cons (de_var 1 (pv 1)) da_nil))))))⟩) da_nil))))))
    (dss_frz 2 (ds_one (ds_ret (de_make mk_Card F_Card___init__ hg (hr.mono (by decide)) (by rfl) g_Card b_Card___init__ (da_cons (de_var 0 (pv 0)) (da_cons (de_var 2 (pv 2)) da_nil))))))))⟩
/-- _law_bag(_law_script) -/
def m_law_bag  : DTS :=
    (mRet (mLst (mCons (mC (.int 0)) (mCons (mC (.int 1234567891)) (mCons (mC (.int 0)) (mCons (mComp (mSeq (mSl slD (mVar 0) mNoP (mPart (mC (.int 63))))) (mgName 1) mYes (mCB absD (mCons (mVar 1) mNil)) [1]) mNil))))))
set_option maxHeartbeats 4000000 in
theorem walk_law_bag {f : Addr} {fd : FuncData} (F : Fun K "_law_bag" "_law_bag" s_law_bag f fd) (z_abs : mg "abs" = none)
    {sd : DSp} (hv : ∀ ds Qd Ed, ds.length = 1 → sd ds Qd Ed → m_law_bag (endsD [.S] Qd) (startD ["_law_script", "_law_cell"] [.S] ds)) :
    FnG P w K mg base 1 f fd ["_law_script"] (spD K [.S] sd) := by
  refine fn_dm (N := ["_law_script", "_law_cell"]) F sc_law_bag rfl hv fun cdv A outer s H0 vs E O H hg hr => ?_
  have sc := sc_law_bag
  unfold m_law_bag
  exact ⟨_, (ds_one (ds_ret (de_lst (da_cons de_int (da_cons de_int (da_cons de_int (da_cons (de_comp (own := [("_law_cell", 1)]) ⟨rfl, sc.nd, (di_seq (de_sl (de_var 0 (pv 0)) do_none (do_some de_int))), blkOk_by (own := [("_law_cell", 1)]) (N := ["_law_script", "_law_cell"]) (sc := defScope s_law_bag) (by decide +kernel), (fun _ _ _ _ _ _ => (dg_name 1 (pg_name (i := 1) sc.nd rfl (by first | exact Or.inl rfl | exact Or.inr rfl)))), (own_name (by simp)), mono_name, (fun _ _ _ _ _ _ => df_nil), (fun _ _ _ _ _ _ => (de_abs (by rfl) z_abs (da_cons (de_var 1 (pv 1)) da_nil)))⟩) da_nil)))))))⟩
/-- _law_take(_law_bag_here, _law_many) -/
def m_law_take  : DTS :=
    (mSeqS (mIfS (mTest (mOp eqD (mOp ixD (mVar 0) (mC (.int 0))) (mC (.int 0)))) (mSeqS (mSet 4 (mC (.int 0)))
    (mSeqS (mIfS (mTest (mOp ltD (mOp ixD (mVar 0) (mC (.int 2))) (mCB lenD (mCons (mOp ixD (mVar 0) (mC (.int 3))) mNil)))) (mSet 4 (mOp ixD (mOp ixD (mVar 0) (mC (.int 3))) (mOp ixD (mVar 0) (mC (.int 2))))) mNext)
    (mSeqS (mAugS (mVar 0) (mC (.int 2)) (mC (.int 1)) addI)
    (mSeqS (mIfS (mTest (mOp geD (mVar 4) (mC (.int 1000000000000000000)))) (mAsg (mVar 4) (mgSub (mVar 0) (mC (.int 0)) stD)) mNext)
    (mAsg (mOp modD (mOp addD (mOp addD (mOp mulD (mOp ixD (mVar 0) (mC (.int 1))) (mC (.int 48271))) (mOp modD (mVar 4) (mC (.int 2147483647)))) (mOp mulD (mC (.int 7919)) (mOp ixD (mVar 0) (mC (.int 2))))) (mC (.int 2147483647))) (mgSub (mVar 0) (mC (.int 1)) stD)))))) mNext)
    (mSeqS (mIfS (mTest (mOp gtD (mOp ixD (mVar 0) (mC (.int 0))) (mC (.int 0)))) (mSeqS (mSet 5 (mOp modD (mOp ixD (mVar 0) (mC (.int 0))) (mVar 1)))
    (mSeqS (mAsg (mOp fdivD (mOp ixD (mVar 0) (mC (.int 0))) (mVar 1)) (mgSub (mVar 0) (mC (.int 0)) stD))
    (mRet (mVar 5)))) mNext)
    (mSeqS (mSet 2 (mOp modD (mOp mulD (mOp addD (mOp ixD (mVar 0) (mC (.int 1))) (mC (.int 1))) (mC (.int 39373))) (mC (.int 1000000007))))
    (mSeqS (mSet 3 (mOp modD (mOp mulD (mOp modD (mOp mulD (mVar 2) (mVar 2)) (mC (.int 998244353))) (mC (.int 30011))) (mC (.int 998244353))))
    (mSeqS (mIfS (mTest (mOp gtD (mVar 1) (mC (.int 1000000)))) (mRet (mOp modD (mOp addD (mOp mulD (mVar 3) (mC (.int 1000000007))) (mVar 2)) (mVar 1))) mNext)
    (mRet (mOp modD (mOp fdivD (mVar 3) (mC (.int 7))) (mVar 1))))))))
set_option maxHeartbeats 4000000 in
theorem walk_law_take {f : Addr} {fd : FuncData} (F : Fun K "_law_take" "_law_take" s_law_take f fd) (z_len : mg "len" = none)
    {sd : DSp} (hv : ∀ ds Qd Ed, ds.length = 2 → sd ds Qd Ed → m_law_take (endsD [.M, .S] Qd) (startD ["_law_bag_here", "_law_many", "_law_first", "_law_second", "_law_cell", "_law_value"] [.M, .S] ds)) :
    FnG P w K mg base 1 f fd ["_law_bag_here", "_law_many"] (spD K [.M, .S] sd) := by
  refine fn_dm (N := ["_law_bag_here", "_law_many", "_law_first", "_law_second", "_law_cell", "_law_value"]) F sc_law_take rfl hv fun cdv A outer s H0 vs E O H hg hr => ?_
  have sc := sc_law_take
  unfold m_law_take
  exact ⟨_, (ds_cons (ds_if (dt_eq hr.units (de_ix (de_var 0 (pv 0)) de_int) de_int) (ds_cons (ds_set de_int (fun h => ps_set (i := 4) sc.nd rfl (by first | exact Or.inl rfl | exact Or.inr rfl) h))
    (ds_cons (ds_if (dt_cmp op_lt sim_lt (de_ix (de_var 0 (pv 0)) de_int) (de_len (by rfl) z_len (da_cons (de_ix (de_var 0 (pv 0)) de_int) da_nil)) (nomark _)) (ds_one (ds_set (de_ix (de_ix (de_var 0 (pv 0)) de_int) (de_ix (de_var 0 (pv 0)) de_int)) (fun h => ps_set (i := 4) sc.nd rfl (by first | exact Or.inl rfl | exact Or.inr rfl) h))) ds_nil)
    (ds_cons (ds_augSA (fun a b c => ps_augS a b get_listG c ip_add set_list) (de_var 0 (pv 0)) de_int de_int)
    (ds_cons (ds_if (dt_cmp op_ge sim_ge (de_var 4 (pv 4)) de_int (nomark _)) (ds_one (ds_asg (de_var 4 (pv 4)) (dg_sub (fun a b => pg_sub a b set_list) (de_var 0 (pv 0)) de_int))) ds_nil)
    (ds_one (ds_asg (de_mod (de_add (de_add (de_mul (de_ix (de_var 0 (pv 0)) de_int) de_int) (de_mod (de_var 4 (pv 4)) de_int)) (de_mul de_int (de_ix (de_var 0 (pv 0)) de_int))) de_int) (dg_sub (fun a b => pg_sub a b set_list) (de_var 0 (pv 0)) de_int))))))) ds_nil)
    (ds_cons (ds_if (dt_cmp op_gt sim_gt (de_ix (de_var 0 (pv 0)) de_int) de_int (nomark _)) (ds_cons (ds_set (de_mod (de_ix (de_var 0 (pv 0)) de_int) (de_var 1 (pv 1))) (fun h => ps_set (i := 5) sc.nd rfl (by first | exact Or.inl rfl | exact Or.inr rfl) h))
    (ds_cons (ds_asg (de_fdiv (de_ix (de_var 0 (pv 0)) de_int) (de_var 1 (pv 1))) (dg_sub (fun a b => pg_sub a b set_list) (de_var 0 (pv 0)) de_int))
    (ds_one (ds_ret (de_var 5 (pv 5)))))) ds_nil)
    (ds_cons (ds_set (de_mod (de_mul (de_add (de_ix (de_var 0 (pv 0)) de_int) de_int) de_int) de_int) (fun h => ps_set (i := 2) sc.nd rfl (by first | exact Or.inl rfl | exact Or.inr rfl) h))
    (ds_cons (ds_set (de_mod (de_mul (de_mod (de_mul (de_var 2 (pv 2)) (de_var 2 (pv 2))) de_int) de_int) de_int) (fun h => ps_set (i := 3) sc.nd rfl (by first | exact Or.inl rfl | exact Or.inr rfl) h))
    (ds_cons (ds_if (dt_cmp op_gt sim_gt (de_var 1 (pv 1)) de_int (nomark _)) (ds_one (ds_ret (de_mod (de_add (de_mul (de_var 3 (pv 3)) de_int) (de_var 2 (pv 2))) (de_var 1 (pv 1))))) ds_nil)
    (ds_one (ds_ret (de_mod (de_fdiv (de_var 3 (pv 3)) de_int) (de_var 1 (pv 1))))))))))⟩
/-- _law_some_size(_law_bag_here, _law_most) -/
def m_law_some_size (sd_law_take : DSp) : DTS :=
    (mRet (mOp addD (mC (.int 2)) (mCall [.M, .S] sd_law_take (mCons (mVar 0) (mCons (mOp ixD (mLst (mCons (mOp subD (mCB minD (mCons (mC (.int 4)) (mCons (mVar 1) mNil))) (mC (.int 1))) (mCons (mOp subD (mVar 1) (mC (.int 1))) mNil))) (mCall [.M, .S] sd_law_take (mCons (mVar 0) (mCons (mC (.int 2)) mNil)))) mNil)))))
set_option maxHeartbeats 4000000 in
theorem walk_law_some_size {f : Addr} {fd : FuncData} (F : Fun K "_law_some_size" "_law_some_size" s_law_some_size f fd) {sd_law_take : DSp}
    {f_law_take : Addr} {fd_law_take : FuncData} (F_law_take : FnG P w K mg base 1 f_law_take fd_law_take ["_law_bag_here", "_law_many"] (spD K [.M, .S] sd_law_take)) (g_law_take : mg "_law_take" = some (.ref f_law_take)) (k_law_take : PySem.W.keepIn K (.ref f_law_take) = true) (b_law_take : Binds K fd_law_take ["_law_bag_here", "_law_many"] []) (z_min : mg "min" = none)
    {sd : DSp} (hv : ∀ ds Qd Ed, ds.length = 2 → sd ds Qd Ed → m_law_some_size sd_law_take (endsD [.M, .S] Qd) (startD ["_law_bag_here", "_law_most"] [.M, .S] ds)) :
    FnG P w K mg base 2 f fd ["_law_bag_here", "_law_most"] (spD K [.M, .S] sd) := by
  refine fn_dm (N := ["_law_bag_here", "_law_most"]) F sc_law_some_size rfl hv fun cdv A outer s H0 vs E O H hg hr => ?_
  have sc := sc_law_some_size
  unfold m_law_some_size
  exact ⟨_, (ds_one (ds_ret (de_add de_int (de_call F_law_take hg (hr.mono (by decide)) (by rfl) g_law_take k_law_take b_law_take (da_cons (de_var 0 (pv 0)) (da_cons (de_ix (de_lst (da_cons (de_sub (de_min rfl (by rfl) z_min (da_cons de_int (da_cons (de_var 1 (pv 1)) da_nil))) de_int) (da_cons (de_sub (de_var 1 (pv 1)) de_int) da_nil))) (de_call F_law_take hg (hr.mono (by decide)) (by rfl) g_law_take k_law_take b_law_take (da_cons (de_var 0 (pv 0)) (da_cons de_int da_nil)))) da_nil))))))⟩
/-- _law_ranks(_law_bag_here, _law_size) -/
def m_law_ranks (sd_law_take : DSp) : DTS :=
    (mSeqS (mPar (mPCons (mCall [.M, .S] sd_law_take (mCons (mVar 0) (mCons (mC (.int 6)) mNil))) (mPCons (mLst mNil) mPNil)) (.sh 3 :: .ow 4 :: []))
    (mSeqS (mFor (mRng1 (mCons (mVar 1) mNil)) (mgName 2) (mSeqS (mPar (mPCons (mCall [.M, .S] sd_law_take (mCons (mVar 0) (mCons (mC (.int 3)) mNil))) (mPCons (mOp subD (mCall [.M, .S] sd_law_take (mCons (mVar 0) (mCons (mOp powD (mC (.int 10)) (mC (.int 12))) mNil))) (mOp mulD (mC (.int 5)) (mOp powD (mC (.int 10)) (mC (.int 11))))) mPNil)) (.sh 6 :: .sh 7 :: []))
    (mDrop (mMut appendD (mVar 4) (mCons (mOp ixD (mLst (mCons (mVar 6) (mCons (mOp subD (mOp mulD (mVar 6) (mC (.int 3))) (mC (.int 4))) (mCons (mVar 7) (mCons (mOp subD (mC (.int 0)) (mVar 2)) (mCons (mOp addD (mVar 2) (mVar 6)) (mCons (mOp subD (mOp powD (mC (.int 10)) (mC (.int 39))) (mOp mulD (mVar 2) (mVar 6))) mNil))))))) (mVar 3)) mNil)))))
    (mSeqS (mIfS (mAnd (mTest (mOp eqD (mVar 3) (mC (.int 0)))) (mTest (mOp eqD (mCall [.M, .S] sd_law_take (mCons (mVar 0) (mCons (mC (.int 2)) mNil))) (mC (.int 0))))) (mSetO 4 (mComp (mSeq (mVar 4)) (mgName 8) mYes (mCB intD (mCons (mOp gtD (mVar 8) (mC (.int 0))) mNil)) [8])) mNext)
    (mSeqS (mIfS (mTest (mOp gtD (mVar 3) (mC (.int 1)))) (mSeqS (mSet 5 (mCall [.M, .S] sd_law_take (mCons (mVar 0) (mCons (mVar 1) mNil))))
    (mSetO 4 (mOp addD (mSl slD (mVar 4) (mPart (mVar 5)) mNoP) (mSl slD (mVar 4) mNoP (mPart (mVar 5)))))) mNext)
    (mRet (mVar 4))))))
set_option maxHeartbeats 4000000 in
theorem walk_law_ranks {f : Addr} {fd : FuncData} (F : Fun K "_law_ranks" "_law_ranks" s_law_ranks f fd) {sd_law_take : DSp}
    {f_law_take : Addr} {fd_law_take : FuncData} (F_law_take : FnG P w K mg base 1 f_law_take fd_law_take ["_law_bag_here", "_law_many"] (spD K [.M, .S] sd_law_take)) (g_law_take : mg "_law_take" = some (.ref f_law_take)) (k_law_take : PySem.W.keepIn K (.ref f_law_take) = true) (b_law_take : Binds K fd_law_take ["_law_bag_here", "_law_many"] []) (z_int : mg "int" = none) (z_range : mg "range" = none)
    {sd : DSp} (hv : ∀ ds Qd Ed, ds.length = 2 → sd ds Qd Ed → m_law_ranks sd_law_take (endsD [.M, .S] Qd) (startD ["_law_bag_here", "_law_size", "_law_place", "_law_way", "_law_found", "_law_spot", "_law_few", "_law_great", "_law_rank"] [.M, .S] ds)) :
    FnG P w K mg base 2 f fd ["_law_bag_here", "_law_size"] (spD K [.M, .S] sd) := by
  refine fn_dm (N := ["_law_bag_here", "_law_size", "_law_place", "_law_way", "_law_found", "_law_spot", "_law_few", "_law_great", "_law_rank"]) F sc_law_ranks rfl hv fun cdv A outer s H0 vs E O H hg hr => ?_
  have sc := sc_law_ranks
  unfold m_law_ranks
  exact ⟨_, (ds_cons (ds_par2 (fun h => ps_par (i := 3) (j := 4) rfl sc.nd rfl rfl (by decide) rfl rfl h (by rfl)) (dp_cons (de_call F_law_take hg (hr.mono (by decide)) (by rfl) g_law_take k_law_take b_law_take (da_cons (de_var 0 (pv 0)) (da_cons de_int da_nil))) (fun _ => (dp_cons (de_lst da_nil) (fun _ => dp_nil)))) (sim_tsh (sim_tow sim_tnil 4) 3))
    (ds_cons (ds_for PassesOwn.never rfl (di_rng1 (by rfl) z_range (da_cons (de_var 1 (pv 1)) da_nil)) (fun _ => (dg_name 2 (pg_name (i := 2) sc.nd rfl (by first | exact Or.inl rfl | exact Or.inr rfl)))) (fun _ => (ds_cons (ds_par2 (fun h => ps_par (i := 6) (j := 7) rfl sc.nd rfl rfl (by decide) rfl rfl h (by rfl)) (dp_cons (de_call F_law_take hg (hr.mono (by decide)) (by rfl) g_law_take k_law_take b_law_take (da_cons (de_var 0 (pv 0)) (da_cons de_int da_nil))) (fun _ => (dp_cons (de_sub (de_call F_law_take hg (hr.mono (by decide)) (by rfl) g_law_take k_law_take b_law_take (da_cons (de_var 0 (pv 0)) (da_cons (de_pow de_int de_int) da_nil))) (de_mul de_int (de_pow de_int de_int))) (fun _ => dp_nil)))) (sim_tsh (sim_tsh sim_tnil 7) 6))
    (ds_one (ds_expr (de_append (fun x y => pe_bm PySem.F.plainAttrs_list PySem.F.slot_list_append PySem.F.type_list_append mt_append x y) (de_var 4 (pv 4)) (da_cons (de_ix (de_lst (da_cons (de_var 6 (pv 6)) (da_cons (de_sub (de_mul (de_var 6 (pv 6)) de_int) de_int) (da_cons (de_var 7 (pv 7)) (da_cons (de_sub de_int (de_var 2 (pv 2))) (da_cons (de_add (de_var 2 (pv 2)) (de_var 6 (pv 6))) (da_cons (de_sub (de_pow de_int de_int) (de_mul (de_var 2 (pv 2)) (de_var 6 (pv 6)))) da_nil))))))) (de_var 3 (pv 3))) da_nil)))))))
    (ds_cons (ds_if (dw_pt (dw_and (dt_eq hr.units (de_var 3 (pv 3)) de_int) (dw_and1 (dt_eq hr.units (de_call F_law_take hg (hr.mono (by decide)) (by rfl) g_law_take k_law_take b_law_take (da_cons (de_var 0 (pv 0)) (da_cons de_int da_nil))) de_int)))) (ds_one (ds_setCO (i := 4) (own := [("_law_rank", 8)]) ⟨rfl, sc.nd, (di_seq (de_var 4 (pv 4))), blkOk_by (own := [("_law_rank", 8)]) (N := ["_law_bag_here", "_law_size", "_law_place", "_law_way", "_law_found", "_law_spot", "_law_few", "_law_great", "_law_rank"]) (sc := defScope s_law_ranks) (by decide +kernel), (fun _ _ _ _ _ _ => (dg_name 8 (pg_name (i := 8) sc.nd rfl (by first | exact Or.inl rfl | exact Or.inr rfl)))), (own_name (by simp)), mono_name, (fun _ _ _ _ _ _ => df_nil), (fun _ _ _ _ _ _ => (de_intc (by rfl) z_int (da_cons (de_gt (de_var 8 (pv 8)) de_int) da_nil)))⟩ rfl rfl (sw_true rfl rfl rfl (by decide +kernel)))) ds_nil)
    (ds_cons (ds_if (dt_cmp op_gt sim_gt (de_var 3 (pv 3)) de_int (nomark _)) (ds_cons (ds_set (de_call F_law_take hg (hr.mono (by decide)) (by rfl) g_law_take k_law_take b_law_take (da_cons (de_var 0 (pv 0)) (da_cons (de_var 1 (pv 1)) da_nil))) (fun h => ps_set (i := 5) sc.nd rfl (by first | exact Or.inl rfl | exact Or.inr rfl) h))
    (ds_one (ds_setO (de_add (de_sl (de_var 4 (pv 4)) (do_some (de_var 5 (pv 5))) do_none) (de_sl (de_var 4 (pv 4)) do_none (do_some (de_var 5 (pv 5))))) (fun h => ps_set (i := 4) sc.nd rfl (by first | exact Or.inl rfl | exact Or.inr rfl) h)))) ds_nil)
    (ds_one (ds_ret (de_var 4 (pv 4))))))))⟩
/-- _law_schedule(_law_bag_here, _law_size, _law_most) -/
def m_law_schedule (sd_law_take : DSp) : DTS :=
    (mSeqS (mPar (mPCons (mCall [.M, .S] sd_law_take (mCons (mVar 0) (mCons (mOp addD (mVar 2) (mC (.int 1))) mNil))) (mPCons (mCall [.M, .S] sd_law_take (mCons (mVar 0) (mCons (mC (.int 6)) mNil))) (mPCons (mCall [.M, .S] sd_law_take (mCons (mVar 0) (mCons (mVar 1) mNil))) mPNil))) (.sh 6 :: .sh 7 :: .sh 8 :: []))
    (mSeqS (mSet 3 (mLst (mCons (mCall [.M, .S] sd_law_take (mCons (mVar 0) (mCons (mVar 1) mNil))) (mCons (mCall [.M, .S] sd_law_take (mCons (mVar 0) (mCons (mVar 1) mNil))) mNil))))
    (mSeqS (mSetO 4 (mLst mNil))
    (mSeqS (mFor (mRng1 (mCons (mVar 6) mNil)) (mgName 5) (mSeqS (mSet 9 (mOp ixD (mLst (mCons (mCall [.M, .S] sd_law_take (mCons (mVar 0) (mCons (mVar 1) mNil))) (mCons (mOp ixD (mVar 3) (mOp modD (mVar 5) (mC (.int 2)))) (mCons (mOp modD (mOp addD (mVar 8) (mVar 5)) (mVar 1)) (mCons (mOp modD (mOp subD (mVar 8) (mVar 5)) (mVar 1)) mNil))))) (mCB minD (mCons (mVar 7) (mCons (mC (.int 3)) mNil)))))
    (mSeqS (mIfS (mTest (mOp eqD (mVar 7) (mC (.int 4)))) (mSet 9 (mOp modD (mCB absD (mCons (mOp addD (mOp subD (mOp modD (mOp addD (mVar 8) (mVar 5)) (mOp subD (mOp mulD (mC (.int 2)) (mVar 1)) (mC (.int 2)))) (mVar 1)) (mC (.int 1))) mNil)) (mVar 1))) mNext)
    (mSeqS (mIfS (mTest (mOp eqD (mVar 7) (mC (.int 5)))) (mSet 9 (mCall [.M, .S] sd_law_take (mCons (mVar 0) (mCons (mCB maxD (mCons (mC (.int 1)) (mCons (mOp subD (mVar 1) (mC (.int 1))) mNil))) mNil)))) mNext)
    (mDrop (mMut appendD (mVar 4) (mCons (mVar 9) mNil)))))))
    (mRet (mVar 4))))))
set_option maxHeartbeats 4000000 in
theorem walk_law_schedule {f : Addr} {fd : FuncData} (F : Fun K "_law_schedule" "_law_schedule" s_law_schedule f fd) {sd_law_take : DSp}
    {f_law_take : Addr} {fd_law_take : FuncData} (F_law_take : FnG P w K mg base 1 f_law_take fd_law_take ["_law_bag_here", "_law_many"] (spD K [.M, .S] sd_law_take)) (g_law_take : mg "_law_take" = some (.ref f_law_take)) (k_law_take : PySem.W.keepIn K (.ref f_law_take) = true) (b_law_take : Binds K fd_law_take ["_law_bag_here", "_law_many"] []) (z_range : mg "range" = none) (z_max : mg "max" = none) (z_abs : mg "abs" = none) (z_min : mg "min" = none)
    {sd : DSp} (hv : ∀ ds Qd Ed, ds.length = 3 → sd ds Qd Ed → m_law_schedule sd_law_take (endsD [.M, .S, .S] Qd) (startD ["_law_bag_here", "_law_size", "_law_most", "_law_few", "_law_found", "_law_k", "_law_many", "_law_way", "_law_begin", "_law_gap"] [.M, .S, .S] ds)) :
    FnG P w K mg base 2 f fd ["_law_bag_here", "_law_size", "_law_most"] (spD K [.M, .S, .S] sd) := by
  refine fn_dm (N := ["_law_bag_here", "_law_size", "_law_most", "_law_few", "_law_found", "_law_k", "_law_many", "_law_way", "_law_begin", "_law_gap"]) F sc_law_schedule rfl hv fun cdv A outer s H0 vs E O H hg hr => ?_
  have sc := sc_law_schedule
  unfold m_law_schedule
  exact ⟨_, (ds_cons (ds_par3 (fun h => ps_par3 (i := 6) (j := 7) (l := 8) rfl sc.nd rfl rfl rfl (by decide) (by decide) (by decide) rfl rfl rfl h (by rfl)) (dp_cons (de_call F_law_take hg (hr.mono (by decide)) (by rfl) g_law_take k_law_take b_law_take (da_cons (de_var 0 (pv 0)) (da_cons (de_add (de_var 2 (pv 2)) de_int) da_nil))) (fun _ => (dp_cons (de_call F_law_take hg (hr.mono (by decide)) (by rfl) g_law_take k_law_take b_law_take (da_cons (de_var 0 (pv 0)) (da_cons de_int da_nil))) (fun _ => (dp_cons (de_call F_law_take hg (hr.mono (by decide)) (by rfl) g_law_take k_law_take b_law_take (da_cons (de_var 0 (pv 0)) (da_cons (de_var 1 (pv 1)) da_nil))) (fun _ => dp_nil)))))) (sim_tsh (sim_tsh (sim_tsh sim_tnil 8) 7) 6))
    (ds_cons (ds_set (de_lst (da_cons (de_call F_law_take hg (hr.mono (by decide)) (by rfl) g_law_take k_law_take b_law_take (da_cons (de_var 0 (pv 0)) (da_cons (de_var 1 (pv 1)) da_nil))) (da_cons (de_call F_law_take hg (hr.mono (by decide)) (by rfl) g_law_take k_law_take b_law_take (da_cons (de_var 0 (pv 0)) (da_cons (de_var 1 (pv 1)) da_nil))) da_nil))) (fun h => ps_set (i := 3) sc.nd rfl (by first | exact Or.inl rfl | exact Or.inr rfl) h))
    (ds_cons (ds_setO (de_lst da_nil) (fun h => ps_set (i := 4) sc.nd rfl (by first | exact Or.inl rfl | exact Or.inr rfl) h))
    (ds_cons (ds_for PassesOwn.never rfl (di_rng1 (by rfl) z_range (da_cons (de_var 6 (pv 6)) da_nil)) (fun _ => (dg_name 5 (pg_name (i := 5) sc.nd rfl (by first | exact Or.inl rfl | exact Or.inr rfl)))) (fun _ => (ds_cons (ds_set (de_ix (de_lst (da_cons (de_call F_law_take hg (hr.mono (by decide)) (by rfl) g_law_take k_law_take b_law_take (da_cons (de_var 0 (pv 0)) (da_cons (de_var 1 (pv 1)) da_nil))) (da_cons (de_ix (de_var 3 (pv 3)) (de_mod (de_var 5 (pv 5)) de_int)) (da_cons (de_mod (de_add (de_var 8 (pv 8)) (de_var 5 (pv 5))) (de_var 1 (pv 1))) (da_cons (de_mod (de_sub (de_var 8 (pv 8)) (de_var 5 (pv 5))) (de_var 1 (pv 1))) da_nil))))) (de_min rfl (by rfl) z_min (da_cons (de_var 7 (pv 7)) (da_cons de_int da_nil)))) (fun h => ps_set (i := 9) sc.nd rfl (by first | exact Or.inl rfl | exact Or.inr rfl) h))
    (ds_cons (ds_if (dt_eq hr.units (de_var 7 (pv 7)) de_int) (ds_one (ds_set (de_mod (de_abs (by rfl) z_abs (da_cons (de_add (de_sub (de_mod (de_add (de_var 8 (pv 8)) (de_var 5 (pv 5))) (de_sub (de_mul de_int (de_var 1 (pv 1))) de_int)) (de_var 1 (pv 1))) de_int) da_nil)) (de_var 1 (pv 1))) (fun h => ps_set (i := 9) sc.nd rfl (by first | exact Or.inl rfl | exact Or.inr rfl) h))) ds_nil)
    (ds_cons (ds_if (dt_eq hr.units (de_var 7 (pv 7)) de_int) (ds_one (ds_set (de_call F_law_take hg (hr.mono (by decide)) (by rfl) g_law_take k_law_take b_law_take (da_cons (de_var 0 (pv 0)) (da_cons (de_max rfl (by rfl) z_max (da_cons de_int (da_cons (de_sub (de_var 1 (pv 1)) de_int) da_nil))) da_nil))) (fun h => ps_set (i := 9) sc.nd rfl (by first | exact Or.inl rfl | exact Or.inr rfl) h))) ds_nil)
    (ds_one (ds_expr (de_append (fun x y => pe_bm PySem.F.plainAttrs_list PySem.F.slot_list_append PySem.F.type_list_append mt_append x y) (de_var 4 (pv 4)) (da_cons (de_var 9 (pv 9)) da_nil)))))))))
    (ds_one (ds_ret (de_var 4 (pv 4))))))))⟩
/-- _law_standing(_law_size) -/
def m_law_standing  : DTS :=
    (mRet (mLRg (mRg1 (mVar 0))))
set_option maxHeartbeats 4000000 in
theorem walk_law_standing {f : Addr} {fd : FuncData} (F : Fun K "_law_standing" "_law_standing" s_law_standing f fd) (z_list : mg "list" = none) (z_range : mg "range" = none)
    {sd : DSp} (hv : ∀ ds Qd Ed, ds.length = 1 → sd ds Qd Ed → m_law_standing (endsD [.S] Qd) (startD ["_law_size"] [.S] ds)) :
    FnG P w K mg base 1 f fd ["_law_size"] (spD K [.S] sd) := by
  refine fn_dm (N := ["_law_size"]) F sc_law_standing rfl hv fun cdv A outer s H0 vs E O H hg hr => ?_
  have sc := sc_law_standing
  unfold m_law_standing
  exact ⟨_, (ds_one (ds_ret (de_listRg rfl (by rfl) z_list (dr_1 (by rfl) z_range (de_var 0 (pv 0))))))⟩
/-- _law_called(_law_ranks_here, _law_there, _law_gap) -/
def m_law_called  : DTS :=
    (mSeqS (mSet 3 (mCB lenD (mCons (mVar 0) mNil)))
    (mSeqS (mIfS (mTest (mOp ltD (mVar 2) (mOp subD (mVar 3) (mC (.int 1))))) (mSeqS (mPar (mPCons (mOp ixD (mVar 1) (mVar 2)) (mPCons (mOp ixD (mVar 1) (mOp addD (mVar 2) (mC (.int 1)))) mPNil)) (.sh 4 :: .sh 5 :: []))
    (mSeqS (mIfS (mTest (mOp gtD (mOp ixD (mVar 0) (mOp modD (mVar 4) (mVar 3))) (mOp ixD (mVar 0) (mOp modD (mVar 5) (mVar 3))))) (mSeqS (mPar3 2 (mPCons (mVar 5) (mPCons (mVar 4) mPNil)) (.sub (mVar 1) (mVar 2) :: .sub (mVar 1) (mOp addD (mVar 2) (mC (.int 1))) :: []))
    (mRet (mC (.bl true)))) mNext)
    (mRet (mC (.bl false))))) mNext)
    (mSeqS (mPar (mPCons (mOp ixD (mVar 1) (mOp subD (mVar 3) (mC (.int 1)))) (mPCons (mOp addD (mOp ixD (mVar 1) (mC (.int 0))) (mVar 3)) mPNil)) (.sh 4 :: .sh 5 :: []))
    (mSeqS (mIfS (mTest (mOp gtD (mOp ixD (mVar 0) (mOp modD (mVar 4) (mVar 3))) (mOp ixD (mVar 0) (mOp modD (mVar 5) (mVar 3))))) (mSeqS (mPar3 2 (mPCons (mVar 5) (mPCons (mOp subD (mVar 4) (mVar 3)) mPNil)) (.sub (mVar 1) (mOp subD (mVar 3) (mC (.int 1))) :: .sub (mVar 1) (mC (.int 0)) :: []))
    (mRet (mC (.bl true)))) mNext)
    (mRet (mC (.bl false)))))))
set_option maxHeartbeats 4000000 in
theorem walk_law_called {f : Addr} {fd : FuncData} (F : Fun K "_law_called" "_law_called" s_law_called f fd) (z_len : mg "len" = none)
    {sd : DSp} (hv : ∀ ds Qd Ed, ds.length = 3 → sd ds Qd Ed → m_law_called (endsD [.S, .M, .S] Qd) (startD ["_law_ranks_here", "_law_there", "_law_gap", "_law_size", "_law_first", "_law_second"] [.S, .M, .S] ds)) :
    FnG P w K mg base 1 f fd ["_law_ranks_here", "_law_there", "_law_gap"] (spD K [.S, .M, .S] sd) := by
  refine fn_dm (N := ["_law_ranks_here", "_law_there", "_law_gap", "_law_size", "_law_first", "_law_second"]) F sc_law_called rfl hv fun cdv A outer s H0 vs E O H hg hr => ?_
  have sc := sc_law_called
  unfold m_law_called
  exact ⟨_, (ds_cons (ds_set (de_len (by rfl) z_len (da_cons (de_var 0 (pv 0)) da_nil)) (fun h => ps_set (i := 3) sc.nd rfl (by first | exact Or.inl rfl | exact Or.inr rfl) h))
    (ds_cons (ds_if (dt_cmp op_lt sim_lt (de_var 2 (pv 2)) (de_sub (de_var 3 (pv 3)) de_int) (nomark _)) (ds_cons (ds_par2 (fun h => ps_par (i := 4) (j := 5) rfl sc.nd rfl rfl (by decide) rfl rfl h (by rfl)) (dp_cons (de_ix (de_var 1 (pv 1)) (de_var 2 (pv 2))) (fun _ => (dp_cons (de_ix (de_var 1 (pv 1)) (de_add (de_var 2 (pv 2)) de_int)) (fun _ => dp_nil)))) (sim_tsh (sim_tsh sim_tnil 5) 4))
    (ds_cons (ds_if (dt_cmp op_gt sim_gt (de_ix (de_var 0 (pv 0)) (de_mod (de_var 4 (pv 4)) (de_var 3 (pv 3)))) (de_ix (de_var 0 (pv 0)) (de_mod (de_var 5 (pv 5)) (de_var 3 (pv 3)))) (nomark _)) (ds_cons (ds_asgT (n := 2) (dp_cons (de_var 5 (pv 5)) (fun _ => (dp_cons (de_var 4 (pv 4)) (fun _ => dp_nil)))) (dts_sub (fun a b => pg_sub a b set_list) (fun _ => (de_var 1 (pv 1))) (fun _ => (de_var 2 (pv 2))) (dts_sub (fun a b => pg_sub a b set_list) (fun _ => (de_var 1 (pv 1))) (fun _ => (de_add (de_var 2 (pv 2)) de_int)) dts_nil)) rfl (by decide))
    (ds_one (ds_ret de_bl))) ds_nil)
    (ds_one (ds_ret de_bl)))) ds_nil)
    (ds_cons (ds_par2 (fun h => ps_par (i := 4) (j := 5) rfl sc.nd rfl rfl (by decide) rfl rfl h (by rfl)) (dp_cons (de_ix (de_var 1 (pv 1)) (de_sub (de_var 3 (pv 3)) de_int)) (fun _ => (dp_cons (de_add (de_ix (de_var 1 (pv 1)) de_int) (de_var 3 (pv 3))) (fun _ => dp_nil)))) (sim_tsh (sim_tsh sim_tnil 5) 4))
    (ds_cons (ds_if (dt_cmp op_gt sim_gt (de_ix (de_var 0 (pv 0)) (de_mod (de_var 4 (pv 4)) (de_var 3 (pv 3)))) (de_ix (de_var 0 (pv 0)) (de_mod (de_var 5 (pv 5)) (de_var 3 (pv 3)))) (nomark _)) (ds_cons (ds_asgT (n := 2) (dp_cons (de_var 5 (pv 5)) (fun _ => (dp_cons (de_sub (de_var 4 (pv 4)) (de_var 3 (pv 3))) (fun _ => dp_nil)))) (dts_sub (fun a b => pg_sub a b set_list) (fun _ => (de_var 1 (pv 1))) (fun _ => (de_sub (de_var 3 (pv 3)) de_int)) (dts_sub (fun a b => pg_sub a b set_list) (fun _ => (de_var 1 (pv 1))) (fun _ => de_int) dts_nil)) rfl (by decide))
    (ds_one (ds_ret de_bl))) ds_nil)
    (ds_one (ds_ret de_bl))))))⟩
/-- _law_run(_law_ranks_here, _law_schedule_here) -/
def m_law_run (sd_law_called sd_law_standing : DSp) : DTS :=
    (mSeqS (mPar (mPCons (mCall [.S] sd_law_standing (mCons (mCB lenD (mCons (mVar 0) mNil)) mNil)) (mPCons (mLst mNil) mPNil)) (.ow 2 :: .ow 3 :: []))
    (mSeqS (mFor (mEnum (mVar 1)) (mgTup 2 (mgCons (mgName 4) (mgCons (mgName 5) mgNil))) (mIfS (mTest (mCall [.S, .M, .S] sd_law_called (mCons (mVar 0) (mCons (mVar 2) (mCons (mVar 5) mNil))))) (mDrop (mMut appendD (mVar 3) (mCons (mVar 4) mNil))) mNext))
    (mFrz 2 (mFrz 3 (mRet (mTup (mCons (mVar 2) (mCons (mVar 3) mNil))))))))
set_option maxHeartbeats 4000000 in
theorem walk_law_run {f : Addr} {fd : FuncData} (F : Fun K "_law_run" "_law_run" s_law_run f fd) {sd_law_called sd_law_standing : DSp}
    {f_law_called : Addr} {fd_law_called : FuncData} (F_law_called : FnG P w K mg base 1 f_law_called fd_law_called ["_law_ranks_here", "_law_there", "_law_gap"] (spD K [.S, .M, .S] sd_law_called)) (g_law_called : mg "_law_called" = some (.ref f_law_called)) (k_law_called : PySem.W.keepIn K (.ref f_law_called) = true) (b_law_called : Binds K fd_law_called ["_law_ranks_here", "_law_there", "_law_gap"] [])
    {f_law_standing : Addr} {fd_law_standing : FuncData} (F_law_standing : FnG P w K mg base 1 f_law_standing fd_law_standing ["_law_size"] (spD K [.S] sd_law_standing)) (g_law_standing : mg "_law_standing" = some (.ref f_law_standing)) (k_law_standing : PySem.W.keepIn K (.ref f_law_standing) = true) (b_law_standing : Binds K fd_law_standing ["_law_size"] []) (z_enumerate : mg "enumerate" = none) (z_len : mg "len" = none)
    {sd : DSp} (hv : ∀ ds Qd Ed, ds.length = 2 → sd ds Qd Ed → m_law_run sd_law_called sd_law_standing (endsD [.S, .S] Qd) (startD ["_law_ranks_here", "_law_schedule_here", "_law_there", "_law_found", "_law_at", "_law_gap"] [.S, .S] ds)) :
    FnG P w K mg base 2 f fd ["_law_ranks_here", "_law_schedule_here"] (spD K [.S, .S] sd) := by
  refine fn_dm (N := ["_law_ranks_here", "_law_schedule_here", "_law_there", "_law_found", "_law_at", "_law_gap"]) F sc_law_run rfl hv fun cdv A outer s H0 vs E O H hg hr => ?_
  have sc := sc_law_run
  unfold m_law_run
  exact ⟨_, (ds_cons (ds_par2 (fun h => ps_par (i := 2) (j := 3) rfl sc.nd rfl rfl (by decide) rfl rfl h (by rfl)) (dp_cons (de_call F_law_standing hg (hr.mono (by decide)) (by rfl) g_law_standing k_law_standing b_law_standing (da_cons (de_len (by rfl) z_len (da_cons (de_var 0 (pv 0)) da_nil)) da_nil)) (fun _ => (dp_cons (de_lst da_nil) (fun _ => dp_nil)))) (sim_tow (sim_tow sim_tnil 3) 2))
    (ds_cons (ds_for PassesOwn.never rfl (di_enum (by rfl) z_enumerate (de_var 1 (pv 1))) (fun _ => (dg_tup rfl (dgs_cons (dg_name 4 (pg_name (i := 4) sc.nd rfl (by first | exact Or.inl rfl | exact Or.inr rfl))) (dgs_cons (dg_name 5 (pg_name (i := 5) sc.nd rfl (by first | exact Or.inl rfl | exact Or.inr rfl))) dgs_nil)))) (fun _ => (ds_one (ds_if (dt_val (de_call F_law_called hg (hr.mono (by decide)) (by rfl) g_law_called k_law_called b_law_called (da_cons (de_var 0 (pv 0)) (da_cons (de_var 2 (pv 2)) (da_cons (de_var 5 (pv 5)) da_nil))))) (ds_one (ds_expr (de_append (fun x y => pe_bm PySem.F.plainAttrs_list PySem.F.slot_list_append PySem.F.type_list_append mt_append x y) (de_var 3 (pv 3)) (da_cons (de_var 4 (pv 4)) da_nil)))) ds_nil))))
    (dss_frz 2 (dss_frz 3 (ds_one (ds_ret (de_tup (da_cons (de_var 2 (pv 2)) (da_cons (de_var 3 (pv 3)) da_nil)))))))))⟩
/-- _law_ended(_law_there) -/
def m_law_ended  : DTS :=
    (mSeqS (mSet 1 (mCB lenD (mCons (mVar 0) mNil)))
    (mSeqS (mSetO 2 (mOp mulD (mLst (mCons (mC (.int 0)) mNil)) (mVar 1)))
    (mSeqS (mFor (mRng1 (mCons (mVar 1) mNil)) (mgName 3) (mSeqS (mSet 4 (mOp modD (mOp ixD (mVar 0) (mVar 3)) (mVar 1)))
    (mAsg (mOp addD (mOp subD (mVar 3) (mOp ixD (mVar 0) (mVar 3))) (mVar 4)) (mgSub (mVar 2) (mVar 4) stD))))
    (mRet (mCB tupleD (mCons (mVar 2) mNil))))))
set_option maxHeartbeats 4000000 in
theorem walk_law_ended {f : Addr} {fd : FuncData} (F : Fun K "_law_ended" "_law_ended" s_law_ended f fd) (z_tuple : mg "tuple" = none) (z_range : mg "range" = none) (z_len : mg "len" = none)
    {sd : DSp} (hv : ∀ ds Qd Ed, ds.length = 1 → sd ds Qd Ed → m_law_ended (endsD [.S] Qd) (startD ["_law_there", "_law_size", "_law_found", "_law_place", "_law_person"] [.S] ds)) :
    FnG P w K mg base 1 f fd ["_law_there"] (spD K [.S] sd) := by
  refine fn_dm (N := ["_law_there", "_law_size", "_law_found", "_law_place", "_law_person"]) F sc_law_ended rfl hv fun cdv A outer s H0 vs E O H hg hr => ?_
  have sc := sc_law_ended
  unfold m_law_ended
  exact ⟨_, (ds_cons (ds_set (de_len (by rfl) z_len (da_cons (de_var 0 (pv 0)) da_nil)) (fun h => ps_set (i := 1) sc.nd rfl (by first | exact Or.inl rfl | exact Or.inr rfl) h))
    (ds_cons (ds_setO (de_mul (de_lst (da_cons de_int da_nil)) (de_var 1 (pv 1))) (fun h => ps_set (i := 2) sc.nd rfl (by first | exact Or.inl rfl | exact Or.inr rfl) h))
    (ds_cons (ds_for PassesOwn.never rfl (di_rng1 (by rfl) z_range (da_cons (de_var 1 (pv 1)) da_nil)) (fun _ => (dg_name 3 (pg_name (i := 3) sc.nd rfl (by first | exact Or.inl rfl | exact Or.inr rfl)))) (fun _ => (ds_cons (ds_set (de_mod (de_ix (de_var 0 (pv 0)) (de_var 3 (pv 3))) (de_var 1 (pv 1))) (fun h => ps_set (i := 4) sc.nd rfl (by first | exact Or.inl rfl | exact Or.inr rfl) h))
    (ds_one (ds_asg (de_add (de_sub (de_var 3 (pv 3)) (de_ix (de_var 0 (pv 0)) (de_var 3 (pv 3)))) (de_var 4 (pv 4))) (dg_sub (fun a b => pg_sub a b set_list) (de_var 2 (pv 2)) (de_var 4 (pv 4))))))))
    (ds_one (ds_ret (de_tuple (by rfl) z_tuple (da_cons (de_var 2 (pv 2)) da_nil)))))))⟩
/-- _law_after(_law_ranks_here, _law_there) -/
def m_law_after  : DTS :=
    (mRet (mComp (mSeq (mVar 1)) (mgName 2) mYes (mOp ixD (mVar 0) (mOp modD (mVar 2) (mCB lenD (mCons (mVar 0) mNil)))) [2]))
set_option maxHeartbeats 4000000 in
theorem walk_law_after {f : Addr} {fd : FuncData} (F : Fun K "_law_after" "_law_after" s_law_after f fd) (z_len : mg "len" = none)
    {sd : DSp} (hv : ∀ ds Qd Ed, ds.length = 2 → sd ds Qd Ed → m_law_after (endsD [.S, .S] Qd) (startD ["_law_ranks_here", "_law_there", "_law_copy"] [.S, .S] ds)) :
    FnG P w K mg base 1 f fd ["_law_ranks_here", "_law_there"] (spD K [.S, .S] sd) := by
  refine fn_dm (N := ["_law_ranks_here", "_law_there", "_law_copy"]) F sc_law_after rfl hv fun cdv A outer s H0 vs E O H hg hr => ?_
  have sc := sc_law_after
  unfold m_law_after
  exact ⟨_, (ds_one (ds_ret (de_comp (own := [("_law_copy", 2)]) ⟨rfl, sc.nd, (di_seq (de_var 1 (pv 1))), blkOk_by (own := [("_law_copy", 2)]) (N := ["_law_ranks_here", "_law_there", "_law_copy"]) (sc := defScope s_law_after) (by decide +kernel), (fun _ _ _ _ _ _ => (dg_name 2 (pg_name (i := 2) sc.nd rfl (by first | exact Or.inl rfl | exact Or.inr rfl)))), (own_name (by simp)), mono_name, (fun _ _ _ _ _ _ => df_nil), (fun _ _ _ _ _ _ => (de_ix (de_var 0 (pv 0)) (de_mod (de_var 2 (pv 2)) (de_len (by rfl) z_len (da_cons (de_var 0 (pv 0)) da_nil)))))⟩)))⟩
/-- _law_is_less(_law_one, _law_other) -/
def m_law_is_less  : DTS :=
    (mRet (mOp ltD (mOp mulD (mOp ixD (mVar 0) (mC (.int 0))) (mOp ixD (mVar 1) (mC (.int 1)))) (mOp mulD (mOp ixD (mVar 1) (mC (.int 0))) (mOp ixD (mVar 0) (mC (.int 1))))))
set_option maxHeartbeats 4000000 in
theorem walk_law_is_less {f : Addr} {fd : FuncData} (F : Fun K "_law_is_less" "_law_is_less" s_law_is_less f fd)
    {sd : DSp} (hv : ∀ ds Qd Ed, ds.length = 2 → sd ds Qd Ed → m_law_is_less (endsD [.S, .S] Qd) (startD ["_law_one", "_law_other"] [.S, .S] ds)) :
    FnG P w K mg base 1 f fd ["_law_one", "_law_other"] (spD K [.S, .S] sd) := by
  refine fn_dm (N := ["_law_one", "_law_other"]) F sc_law_is_less rfl hv fun cdv A outer s H0 vs E O H hg hr => ?_
  have sc := sc_law_is_less
  unfold m_law_is_less
  exact ⟨_, (ds_one (ds_ret (de_lt (de_mul (de_ix (de_var 0 (pv 0)) de_int) (de_ix (de_var 1 (pv 1)) de_int)) (de_mul (de_ix (de_var 1 (pv 1)) de_int) (de_ix (de_var 0 (pv 0)) de_int)))))⟩
/-- _law_order_right(_law_ranks_here, _law_laps) -/
def m_law_order_right (sd_law_is_less : DSp) : DTS :=
    (mSeqS (mFor (mRng1 (mCons (mCB lenD (mCons (mVar 0) mNil)) mNil)) (mgName 2) (mFor (mRng1 (mCons (mCB lenD (mCons (mVar 0) mNil)) mNil)) (mgName 3) (mIfS (mAnd (mTest (mOp geD (mOp ixD (mVar 0) (mVar 2)) (mOp ixD (mVar 0) (mVar 3)))) (mTest (mCall [.S, .S] sd_law_is_less (mCons (mOp ixD (mVar 1) (mVar 2)) (mCons (mOp ixD (mVar 1) (mVar 3)) mNil))))) (mRet (mC (.bl false))) mNext)))
    (mRet (mC (.bl true))))
set_option maxHeartbeats 4000000 in
theorem walk_law_order_right {f : Addr} {fd : FuncData} (F : Fun K "_law_order_right" "_law_order_right" s_law_order_right f fd) {sd_law_is_less : DSp}
    {f_law_is_less : Addr} {fd_law_is_less : FuncData} (F_law_is_less : FnG P w K mg base 1 f_law_is_less fd_law_is_less ["_law_one", "_law_other"] (spD K [.S, .S] sd_law_is_less)) (g_law_is_less : mg "_law_is_less" = some (.ref f_law_is_less)) (k_law_is_less : PySem.W.keepIn K (.ref f_law_is_less) = true) (b_law_is_less : Binds K fd_law_is_less ["_law_one", "_law_other"] []) (z_range : mg "range" = none) (z_len : mg "len" = none)
    {sd : DSp} (hv : ∀ ds Qd Ed, ds.length = 2 → sd ds Qd Ed → m_law_order_right sd_law_is_less (endsD [.S, .S] Qd) (startD ["_law_ranks_here", "_law_laps", "_law_one", "_law_other"] [.S, .S] ds)) :
    FnG P w K mg base 2 f fd ["_law_ranks_here", "_law_laps"] (spD K [.S, .S] sd) := by
  refine fn_dm (N := ["_law_ranks_here", "_law_laps", "_law_one", "_law_other"]) F sc_law_order_right rfl hv fun cdv A outer s H0 vs E O H hg hr => ?_
  have sc := sc_law_order_right
  unfold m_law_order_right
  exact ⟨_, (ds_cons (ds_for PassesOwn.never rfl (di_rng1 (by rfl) z_range (da_cons (de_len (by rfl) z_len (da_cons (de_var 0 (pv 0)) da_nil)) da_nil)) (fun _ => (dg_name 2 (pg_name (i := 2) sc.nd rfl (by first | exact Or.inl rfl | exact Or.inr rfl)))) (fun _ => (ds_one (ds_for PassesOwn.never rfl (di_rng1 (by rfl) z_range (da_cons (de_len (by rfl) z_len (da_cons (de_var 0 (pv 0)) da_nil)) da_nil)) (fun _ => (dg_name 3 (pg_name (i := 3) sc.nd rfl (by first | exact Or.inl rfl | exact Or.inr rfl)))) (fun _ => (ds_one (ds_if (dw_pt (dw_and (dt_cmp op_ge sim_ge (de_ix (de_var 0 (pv 0)) (de_var 2 (pv 2))) (de_ix (de_var 0 (pv 0)) (de_var 3 (pv 3))) (nomark _)) (dw_and1 (dt_val (de_call F_law_is_less hg (hr.mono (by decide)) (by rfl) g_law_is_less k_law_is_less b_law_is_less (da_cons (de_ix (de_var 1 (pv 1)) (de_var 2 (pv 2))) (da_cons (de_ix (de_var 1 (pv 1)) (de_var 3 (pv 3))) da_nil))))))) (ds_one (ds_ret de_bl)) ds_nil)))))))
    (ds_one (ds_ret de_bl)))⟩
/-- _law_steps_right(_law_card) -/
def m_law_steps_right (C_Card : Addr) (sd_Card_size sd_rate : DSp) : DTS :=
    (mSeqS (mSet 1 (mComp (mRng1 (mCons (mOp addD (mCall [.S] sd_Card_size (mSelf1 C_Card (mVar 0))) (mC (.int 1))) mNil)) (mgName 2) mYes (mCall [.S, .S] sd_rate (mCons (mVar 0) (mCons (mVar 2) mNil))) [2]))
    (mSeqS (mFor (mRng2 (mCons (mC (.int 1)) (mCons (mCall [.S] sd_Card_size (mSelf1 C_Card (mVar 0))) mNil))) (mgName 2) (mSeqS (mPar (mPCons (mOp ixD (mVar 1) (mOp subD (mVar 2) (mC (.int 1)))) (mPCons (mOp ixD (mVar 1) (mVar 2)) (mPCons (mOp ixD (mVar 1) (mOp addD (mVar 2) (mC (.int 1)))) mPNil))) (.sh 4 :: .sh 5 :: .sh 6 :: []))
    (mSeqS (mSet 3 (mOp addD (mOp mulD (mOp ixD (mVar 4) (mC (.int 0))) (mOp ixD (mVar 6) (mC (.int 1)))) (mOp mulD (mOp ixD (mVar 6) (mC (.int 0))) (mOp ixD (mVar 4) (mC (.int 1))))))
    (mIfS (mTest (mOp ltD (mOp mulD (mOp mulD (mOp mulD (mC (.int 2)) (mOp ixD (mVar 5) (mC (.int 0)))) (mOp ixD (mVar 4) (mC (.int 1)))) (mOp ixD (mVar 6) (mC (.int 1)))) (mOp mulD (mVar 3) (mOp ixD (mVar 5) (mC (.int 1)))))) (mRet (mC (.bl false))) mNext))))
    (mRet (mC (.bl true)))))
set_option maxHeartbeats 4000000 in
theorem walk_law_steps_right {f : Addr} {fd : FuncData} (F : Fun K "_law_steps_right" "_law_steps_right" s_law_steps_right f fd) {C_Card : Addr} {sd_Card_size sd_rate : DSp}
    {f_Card_size : Addr} {fd_Card_size : FuncData} (F_Card_size : FnG P w K mg base 1 f_Card_size fd_Card_size ["self"] (spD K [.S] sd_Card_size)) (b_Card_size : Binds K fd_Card_size ["self"] [])
    {f_rate : Addr} {fd_rate : FuncData} (F_rate : FnG P w K mg base 4 f_rate fd_rate ["card", "count"] (spD K [.S, .S] sd_rate)) (g_rate : mg "rate" = some (.ref f_rate)) (k_rate : PySem.W.keepIn K (.ref f_rate) = true) (b_rate : Binds K fd_rate ["card", "count"] []) {p_Card_size : Addr} (pr_Card_size : PropOf K C_Card "size" p_Card_size f_Card_size) (cl_Card : Cls K C_Card) (z_range : mg "range" = none)
    {sd : DSp} (hv : ∀ ds Qd Ed, ds.length = 1 → sd ds Qd Ed → m_law_steps_right C_Card sd_Card_size sd_rate (endsD [.S] Qd) (startD ["_law_card", "_law_rates", "_law_count", "_law_both", "_law_low", "_law_here", "_law_high"] [.S] ds)) :
    FnG P w K mg base 5 f fd ["_law_card"] (spD K [.S] sd) := by
  refine fn_dm (N := ["_law_card", "_law_rates", "_law_count", "_law_both", "_law_low", "_law_here", "_law_high"]) F sc_law_steps_right rfl hv fun cdv A outer s H0 vs E O H hg hr => ?_
  have sc := sc_law_steps_right
  unfold m_law_steps_right
  exact ⟨_, (ds_cons (ds_setC (i := 1) (own := [("_law_count", 2)]) ⟨rfl, sc.nd, (di_rng1 (by rfl) z_range (da_cons (de_add (de_prop cl_Card pr_Card_size F_Card_size hg (hr.mono (by decide)) b_Card_size (de_var 0 (pv 0))) de_int) da_nil)), blkOk_by (own := [("_law_count", 2)]) (N := ["_law_card", "_law_rates", "_law_count", "_law_both", "_law_low", "_law_here", "_law_high"]) (sc := defScope s_law_steps_right) (by decide +kernel), (fun _ _ _ _ _ _ => (dg_name 2 (pg_name (i := 2) sc.nd rfl (by first | exact Or.inl rfl | exact Or.inr rfl)))), (own_name (by simp)), mono_name, (fun _ _ _ _ _ _ => df_nil), (fun _ _ _ _ _ _ => (de_call F_rate hg (hr.mono (by decide)) (by rfl) g_rate k_rate b_rate (da_cons (de_var 0 (pv 0)) (da_cons (de_var 2 (pv 2)) da_nil))))⟩ rfl rfl (sw_true rfl rfl rfl (by decide +kernel)))
    (ds_cons (ds_for PassesOwn.never rfl (di_rng2 (by rfl) z_range (da_cons de_int (da_cons (de_prop cl_Card pr_Card_size F_Card_size hg (hr.mono (by decide)) b_Card_size (de_var 0 (pv 0))) da_nil))) (fun _ => (dg_name 2 (pg_name (i := 2) sc.nd rfl (by first | exact Or.inl rfl | exact Or.inr rfl)))) (fun _ => (ds_cons (ds_par3 (fun h => ps_par3 (i := 4) (j := 5) (l := 6) rfl sc.nd rfl rfl rfl (by decide) (by decide) (by decide) rfl rfl rfl h (by rfl)) (dp_cons (de_ix (de_var 1 (pv 1)) (de_sub (de_var 2 (pv 2)) de_int)) (fun _ => (dp_cons (de_ix (de_var 1 (pv 1)) (de_var 2 (pv 2))) (fun _ => (dp_cons (de_ix (de_var 1 (pv 1)) (de_add (de_var 2 (pv 2)) de_int)) (fun _ => dp_nil)))))) (sim_tsh (sim_tsh (sim_tsh sim_tnil 6) 5) 4))
    (ds_cons (ds_set (de_add (de_mul (de_ix (de_var 4 (pv 4)) de_int) (de_ix (de_var 6 (pv 6)) de_int)) (de_mul (de_ix (de_var 6 (pv 6)) de_int) (de_ix (de_var 4 (pv 4)) de_int))) (fun h => ps_set (i := 3) sc.nd rfl (by first | exact Or.inl rfl | exact Or.inr rfl) h))
    (ds_one (ds_if (dt_cmp op_lt sim_lt (de_mul (de_mul (de_mul de_int (de_ix (de_var 5 (pv 5)) de_int)) (de_ix (de_var 4 (pv 4)) de_int)) (de_ix (de_var 6 (pv 6)) de_int)) (de_mul (de_var 3 (pv 3)) (de_ix (de_var 5 (pv 5)) de_int)) (nomark _)) (ds_one (ds_ret de_bl)) ds_nil))))))
    (ds_one (ds_ret de_bl))))⟩
/-- _law_laps_right(_law_ranks_here, _law_schedule_here, _law_laps) -/
def m_law_laps_right (sd_law_ended sd_law_after sd_law_run : DSp) : DTS :=
    (mSeqS (mPar (mPCons (mCB lenD (mCons (mVar 0) mNil)) (mPCons mDict0 mPNil)) (.sh 4 :: .ow 5 :: []))
    (mSeqS (mFor (mRng1 (mCons (mC (.int 60)) mNil)) (mgName 3) (mSeqS (mSet 6 (mIf (mTest (mOp ltD (mOp mulD (mVar 3) (mCB lenD (mCons (mVar 1) mNil))) (mC (.int 400)))) (mOp ixD (mCall [.S, .S] sd_law_run (mCons (mVar 0) (mCons (mOp mulD (mVar 1) (mVar 3)) mNil))) (mC (.int 0))) (mLst mNil)))
    (mSeqS (mSet 7 (mCB strLD (mCons (mCall [.S, .S] sd_law_after (mCons (mVar 0) (mCons (mVar 6) mNil))) mNil)))
    (mSeqS (mIfS (mAnd (mTest (mOp neD (mVar 6) (mLst mNil))) (mTest (mOp dinD (mVar 7) (mVar 5)))) (mSeqS (mPar3 2 (mPCons (mCall [.S] sd_law_ended (mCons (mOp ixD (mOp dgetD (mVar 5) (mVar 7)) (mC (.int 1))) mNil)) (mPCons (mCall [.S] sd_law_ended (mCons (mVar 6) mNil)) mPNil)) (.sh 9 :: .sh 10 :: []))
    (mSeqS (mFor (mSeq (mSS (mVar 0))) (mgName 8) (mSeqS (mSet 11 (mComp (mRng1 (mCons (mVar 4) mNil)) (mgName 16) (mTest (mOp eqD (mOp ixD (mVar 0) (mVar 16)) (mVar 8))) (mVar 16) [16]))
    (mSeqS (mSet 12 (mCB sumD (mCons (mComp (mSeq (mVar 11)) (mgName 16) mYes (mOp subD (mOp ixD (mVar 10) (mVar 16)) (mOp ixD (mVar 9) (mVar 16))) [16]) mNil)))
    (mSeqS (mAsg (mOp ixD (mVar 2) (mOp ixD (mVar 11) (mC (.int 0)))) (mgTup 2 (mgCons (mgName 14) (mgCons (mgName 15) mgNil))))
    (mSeqS (mSet 13 (mOp mulD (mOp subD (mVar 3) (mOp ixD (mOp dgetD (mVar 5) (mVar 7)) (mC (.int 0)))) (mCB lenD (mCons (mVar 11) mNil))))
    (mIfS (mTest (mOp neD (mOp mulD (mVar 12) (mVar 15)) (mOp mulD (mOp mulD (mVar 14) (mVar 13)) (mVar 4)))) (mRet (mC (.bl false))) mNext))))))
    (mRet (mC (.bl true))))) mNext)
    (mIfS (mTest (mOp neD (mVar 6) (mLst mNil))) (mDPut (mVar 5) (mVar 7) (mTup (mCons (mVar 3) (mCons (mVar 6) mNil)))) mNext)))))
    (mRet (mC (.bl true)))))
set_option maxHeartbeats 4000000 in
theorem walk_law_laps_right {f : Addr} {fd : FuncData} (F : Fun K "_law_laps_right" "_law_laps_right" s_law_laps_right f fd) {sd_law_ended sd_law_after sd_law_run : DSp}
    {f_law_ended : Addr} {fd_law_ended : FuncData} (F_law_ended : FnG P w K mg base 1 f_law_ended fd_law_ended ["_law_there"] (spD K [.S] sd_law_ended)) (g_law_ended : mg "_law_ended" = some (.ref f_law_ended)) (k_law_ended : PySem.W.keepIn K (.ref f_law_ended) = true) (b_law_ended : Binds K fd_law_ended ["_law_there"] [])
    {f_law_after : Addr} {fd_law_after : FuncData} (F_law_after : FnG P w K mg base 1 f_law_after fd_law_after ["_law_ranks_here", "_law_there"] (spD K [.S, .S] sd_law_after)) (g_law_after : mg "_law_after" = some (.ref f_law_after)) (k_law_after : PySem.W.keepIn K (.ref f_law_after) = true) (b_law_after : Binds K fd_law_after ["_law_ranks_here", "_law_there"] [])
    {f_law_run : Addr} {fd_law_run : FuncData} (F_law_run : FnG P w K mg base 2 f_law_run fd_law_run ["_law_ranks_here", "_law_schedule_here"] (spD K [.S, .S] sd_law_run)) (g_law_run : mg "_law_run" = some (.ref f_law_run)) (k_law_run : PySem.W.keepIn K (.ref f_law_run) = true) (b_law_run : Binds K fd_law_run ["_law_ranks_here", "_law_schedule_here"] []) (z_range : mg "range" = none) (z_sorted : mg "sorted" = none) (z_set : mg "set" = none) (z_len : mg "len" = none) (z_sum : mg "sum" = none) (z_str : mg "str" = none)
    {sd : DSp} (hv : ∀ ds Qd Ed, ds.length = 3 → sd ds Qd Ed → m_law_laps_right sd_law_ended sd_law_after sd_law_run (endsD [.S, .S, .S] Qd) (startD ["_law_ranks_here", "_law_schedule_here", "_law_laps", "_law_turn", "_law_size", "_law_known", "_law_there", "_law_key", "_law_rank", "_law_before", "_law_ends", "_law_group", "_law_gone", "_law_many", "_law_top", "_law_low", "_law_place"] [.S, .S, .S] ds)) :
    FnG P w K mg base 3 f fd ["_law_ranks_here", "_law_schedule_here", "_law_laps"] (spD K [.S, .S, .S] sd) := by
  refine fn_dm (N := ["_law_ranks_here", "_law_schedule_here", "_law_laps", "_law_turn", "_law_size", "_law_known", "_law_there", "_law_key", "_law_rank", "_law_before", "_law_ends", "_law_group", "_law_gone", "_law_many", "_law_top", "_law_low", "_law_place"]) F sc_law_laps_right rfl hv fun cdv A outer s H0 vs E O H hg hr => ?_
  have sc := sc_law_laps_right
  unfold m_law_laps_right
  exact ⟨_, (ds_cons (ds_par2 (fun h => ps_par (i := 4) (j := 5) rfl sc.nd rfl rfl (by decide) rfl rfl h (by rfl)) (dp_cons (de_len (by rfl) z_len (da_cons (de_var 0 (pv 0)) da_nil)) (fun _ => (dp_cons de_dict0 (fun _ => dp_nil)))) (sim_tsh (sim_tow sim_tnil 5) 4))
    (ds_cons (ds_for PassesOwn.never rfl (di_rng1 (by rfl) z_range (da_cons de_int da_nil)) (fun _ => (dg_name 3 (pg_name (i := 3) sc.nd rfl (by first | exact Or.inl rfl | exact Or.inr rfl)))) (fun _ => (ds_cons (ds_set (de_if (dt_cmp op_lt sim_lt (de_mul (de_var 3 (pv 3)) (de_len (by rfl) z_len (da_cons (de_var 1 (pv 1)) da_nil))) de_int (nomark _)) (de_ix (de_call F_law_run hg (hr.mono (by decide)) (by rfl) g_law_run k_law_run b_law_run (da_cons (de_var 0 (pv 0)) (da_cons (de_mul (de_var 1 (pv 1)) (de_var 3 (pv 3))) da_nil))) de_int) (de_lst da_nil)) (fun h => ps_set (i := 6) sc.nd rfl (by first | exact Or.inl rfl | exact Or.inr rfl) h))
    (ds_cons (ds_set (de_strL hg (room100 hr) (by rfl) z_str (da_cons (de_call F_law_after hg (hr.mono (by decide)) (by rfl) g_law_after k_law_after b_law_after (da_cons (de_var 0 (pv 0)) (da_cons (de_var 6 (pv 6)) da_nil))) da_nil)) (fun h => ps_set (i := 7) sc.nd rfl (by first | exact Or.inl rfl | exact Or.inr rfl) h))
    (ds_cons (ds_if (dw_pt (dw_and (dt_ne hr.units (de_var 6 (pv 6)) (de_lst da_nil)) (dw_and1 (dt_din (room1 (room65 hr)) (de_var 7 (pv 7)) (de_var 5 (pv 5)))))) (ds_cons (ds_asgT (n := 2) (dp_cons (de_call F_law_ended hg (hr.mono (by decide)) (by rfl) g_law_ended k_law_ended b_law_ended (da_cons (de_ix (de_dget (room1 (room65 hr)) (de_var 5 (pv 5)) (de_var 7 (pv 7))) de_int) da_nil)) (fun _ => (dp_cons (de_call F_law_ended hg (hr.mono (by decide)) (by rfl) g_law_ended k_law_ended b_law_ended (da_cons (de_var 6 (pv 6)) da_nil)) (fun _ => dp_nil)))) (dts_sh 9 (pg_name (i := 9) sc.nd rfl (by first | exact Or.inl rfl | exact Or.inr rfl)) (dts_sh 10 (pg_name (i := 10) sc.nd rfl (by first | exact Or.inl rfl | exact Or.inr rfl)) dts_nil)) rfl (by decide))
    (ds_cons (ds_for PassesOwn.never rfl (di_seq (de_ss rfl (by rfl) z_sorted (by rfl) z_set (de_var 0 (pv 0)))) (fun _ => (dg_name 8 (pg_name (i := 8) sc.nd rfl (by first | exact Or.inl rfl | exact Or.inr rfl)))) (fun _ => (ds_cons (ds_setC (i := 11) (own := [("_law_place", 16)]) ⟨rfl, sc.nd, (di_rng1 (by rfl) z_range (da_cons (de_var 4 (pv 4)) da_nil)), blkOk_by (own := [("_law_place", 16)]) (N := ["_law_ranks_here", "_law_schedule_here", "_law_laps", "_law_turn", "_law_size", "_law_known", "_law_there", "_law_key", "_law_rank", "_law_before", "_law_ends", "_law_group", "_law_gone", "_law_many", "_law_top", "_law_low", "_law_place"]) (sc := defScope s_law_laps_right) (by decide +kernel), (fun _ _ _ _ _ _ => (dg_name 16 (pg_name (i := 16) sc.nd rfl (by first | exact Or.inl rfl | exact Or.inr rfl)))), (own_name (by simp)), mono_name, (fun _ _ _ _ _ _ => (df_one (dt_eq hr.units (de_ix (de_var 0 (pv 0)) (de_var 16 (pv 16))) (de_var 8 (pv 8))))), (fun _ _ _ _ _ _ => (de_var 16 (pv 16)))⟩ rfl rfl (sw_true rfl rfl rfl (by decide +kernel)))
    (ds_cons (ds_set (de_sum rfl (by rfl) z_sum (da_cons (de_comp (own := [("_law_place", 16)]) ⟨rfl, sc.nd, (di_seq (de_var 11 (pv 11))), blkOk_by (own := [("_law_place", 16)]) (N := ["_law_ranks_here", "_law_schedule_here", "_law_laps", "_law_turn", "_law_size", "_law_known", "_law_there", "_law_key", "_law_rank", "_law_before", "_law_ends", "_law_group", "_law_gone", "_law_many", "_law_top", "_law_low", "_law_place"]) (sc := defScope s_law_laps_right) (by decide +kernel), (fun _ _ _ _ _ _ => (dg_name 16 (pg_name (i := 16) sc.nd rfl (by first | exact Or.inl rfl | exact Or.inr rfl)))), (own_name (by simp)), mono_name, (fun _ _ _ _ _ _ => df_nil), (fun _ _ _ _ _ _ => (de_sub (de_ix (de_var 10 (pv 10)) (de_var 16 (pv 16))) (de_ix (de_var 9 (pv 9)) (de_var 16 (pv 16)))))⟩) da_nil)) (fun h => ps_set (i := 12) sc.nd rfl (by first | exact Or.inl rfl | exact Or.inr rfl) h))
    (ds_cons (ds_asg (de_ix (de_var 2 (pv 2)) (de_ix (de_var 11 (pv 11)) de_int)) (dg_tup rfl (dgs_cons (dg_name 14 (pg_name (i := 14) sc.nd rfl (by first | exact Or.inl rfl | exact Or.inr rfl))) (dgs_cons (dg_name 15 (pg_name (i := 15) sc.nd rfl (by first | exact Or.inl rfl | exact Or.inr rfl))) dgs_nil))))
    (ds_cons (ds_set (de_mul (de_sub (de_var 3 (pv 3)) (de_ix (de_dget (room1 (room65 hr)) (de_var 5 (pv 5)) (de_var 7 (pv 7))) de_int)) (de_len (by rfl) z_len (da_cons (de_var 11 (pv 11)) da_nil))) (fun h => ps_set (i := 13) sc.nd rfl (by first | exact Or.inl rfl | exact Or.inr rfl) h))
    (ds_one (ds_if (dt_ne hr.units (de_mul (de_var 12 (pv 12)) (de_var 15 (pv 15))) (de_mul (de_mul (de_var 14 (pv 14)) (de_var 13 (pv 13))) (de_var 4 (pv 4)))) (ds_one (ds_ret de_bl)) ds_nil))))))))
    (ds_one (ds_ret de_bl)))) ds_nil)
    (ds_one (ds_if (dt_ne hr.units (de_var 6 (pv 6)) (de_lst da_nil)) (ds_one (ds_dput (room1 (room65 hr)) (de_var 5 (pv 5)) (de_var 7 (pv 7)) (de_tup (da_cons (de_var 3 (pv 3)) (da_cons (de_var 6 (pv 6)) da_nil))))) ds_nil)))))))
    (ds_one (ds_ret de_bl))))⟩
/-- law(_law_script) -/
def m_law (C_Ring : Addr) (sd_law_laps_right sd_law_steps_right sd_law_order_right sd_lap_rates sd_Ring___init__ sd_card_of sd_law_schedule sd_law_ranks sd_law_some_size sd_law_bag : DSp) : DTS :=
    (mSeqS (mSetO 1 (mCall [.S] sd_law_bag (mCons (mVar 0) mNil)))
    (mSeqS (mFor (mRng1 (mCons (mC (.int 2)) mNil)) (mgName 2) (mSeqS (mSet 3 (mCall [.M, .S] sd_law_some_size (mCons (mVar 1) (mCons (mC (.int 6)) mNil))))
    (mSeqS (mPar (mPCons (mCall [.M, .S] sd_law_ranks (mCons (mVar 1) (mCons (mVar 3) mNil))) (mPCons (mCall [.M, .S, .S] sd_law_schedule (mCons (mVar 1) (mCons (mVar 3) (mCons (mC (.int 20)) mNil)))) mPNil)) (.sh 6 :: .sh 7 :: []))
    (mSeqS (mSet 4 (mCall [.S, .S] sd_card_of (mCons (mVar 3) (mCons (mCB listD (mCons (mVar 7) mNil)) mNil))))
    (mSeqS (mSet 5 (mCall [.S, .S] sd_lap_rates (mCons (mVar 4) (mCons (mMake C_Ring [.S] sd_Ring___init__ (mCons (mCB listD (mCons (mVar 6) mNil)) mNil)) mNil))))
    (mSeqS (mIfS (mOr (mNot (mTest (mCall [.S, .S] sd_law_order_right (mCons (mVar 6) (mCons (mVar 5) mNil))))) (mNot (mTest (mCall [.S] sd_law_steps_right (mCons (mVar 4) mNil))))) (mRet (mC (.bl false))) mNext)
    (mIfS (mNot (mTest (mCall [.S, .S, .S] sd_law_laps_right (mCons (mVar 6) (mCons (mVar 7) (mCons (mVar 5) mNil)))))) (mRet (mC (.bl false))) mNext)))))))
    (mRet (mC (.bl true)))))
set_option maxHeartbeats 4000000 in
theorem walk_law {f : Addr} {fd : FuncData} (F : Fun K "law" "law" s_law f fd) {C_Ring : Addr} {sd_law_laps_right sd_law_steps_right sd_law_order_right sd_lap_rates sd_Ring___init__ sd_card_of sd_law_schedule sd_law_ranks sd_law_some_size sd_law_bag : DSp}
    {f_law_laps_right : Addr} {fd_law_laps_right : FuncData} (F_law_laps_right : FnG P w K mg base 3 f_law_laps_right fd_law_laps_right ["_law_ranks_here", "_law_schedule_here", "_law_laps"] (spD K [.S, .S, .S] sd_law_laps_right)) (g_law_laps_right : mg "_law_laps_right" = some (.ref f_law_laps_right)) (k_law_laps_right : PySem.W.keepIn K (.ref f_law_laps_right) = true) (b_law_laps_right : Binds K fd_law_laps_right ["_law_ranks_here", "_law_schedule_here", "_law_laps"] [])
    {f_law_steps_right : Addr} {fd_law_steps_right : FuncData} (F_law_steps_right : FnG P w K mg base 5 f_law_steps_right fd_law_steps_right ["_law_card"] (spD K [.S] sd_law_steps_right)) (g_law_steps_right : mg "_law_steps_right" = some (.ref f_law_steps_right)) (k_law_steps_right : PySem.W.keepIn K (.ref f_law_steps_right) = true) (b_law_steps_right : Binds K fd_law_steps_right ["_law_card"] [])
    {f_law_order_right : Addr} {fd_law_order_right : FuncData} (F_law_order_right : FnG P w K mg base 2 f_law_order_right fd_law_order_right ["_law_ranks_here", "_law_laps"] (spD K [.S, .S] sd_law_order_right)) (g_law_order_right : mg "_law_order_right" = some (.ref f_law_order_right)) (k_law_order_right : PySem.W.keepIn K (.ref f_law_order_right) = true) (b_law_order_right : Binds K fd_law_order_right ["_law_ranks_here", "_law_laps"] [])
    {f_lap_rates : Addr} {fd_lap_rates : FuncData} (F_lap_rates : FnG P w K mg base 5 f_lap_rates fd_lap_rates ["card", "ring"] (spD K [.S, .S] sd_lap_rates)) (g_lap_rates : mg "lap_rates" = some (.ref f_lap_rates)) (k_lap_rates : PySem.W.keepIn K (.ref f_lap_rates) = true) (b_lap_rates : Binds K fd_lap_rates ["card", "ring"] [])
    {f_Ring___init__ : Addr} {fd_Ring___init__ : FuncData} (F_Ring___init__ : FnG P w K mg base 4 f_Ring___init__ fd_Ring___init__ ["self", "ranks"] (spD K [.M, .S] sd_Ring___init__)) (b_Ring___init__ : Binds K fd_Ring___init__ ["self", "ranks"] [])
    {f_card_of : Addr} {fd_card_of : FuncData} (F_card_of : FnG P w K mg base 8 f_card_of fd_card_of ["size", "schedule"] (spD K [.S, .S] sd_card_of)) (g_card_of : mg "card_of" = some (.ref f_card_of)) (k_card_of : PySem.W.keepIn K (.ref f_card_of) = true) (b_card_of : Binds K fd_card_of ["size", "schedule"] [])
    {f_law_schedule : Addr} {fd_law_schedule : FuncData} (F_law_schedule : FnG P w K mg base 2 f_law_schedule fd_law_schedule ["_law_bag_here", "_law_size", "_law_most"] (spD K [.M, .S, .S] sd_law_schedule)) (g_law_schedule : mg "_law_schedule" = some (.ref f_law_schedule)) (k_law_schedule : PySem.W.keepIn K (.ref f_law_schedule) = true) (b_law_schedule : Binds K fd_law_schedule ["_law_bag_here", "_law_size", "_law_most"] [])
    {f_law_ranks : Addr} {fd_law_ranks : FuncData} (F_law_ranks : FnG P w K mg base 2 f_law_ranks fd_law_ranks ["_law_bag_here", "_law_size"] (spD K [.M, .S] sd_law_ranks)) (g_law_ranks : mg "_law_ranks" = some (.ref f_law_ranks)) (k_law_ranks : PySem.W.keepIn K (.ref f_law_ranks) = true) (b_law_ranks : Binds K fd_law_ranks ["_law_bag_here", "_law_size"] [])
    {f_law_some_size : Addr} {fd_law_some_size : FuncData} (F_law_some_size : FnG P w K mg base 2 f_law_some_size fd_law_some_size ["_law_bag_here", "_law_most"] (spD K [.M, .S] sd_law_some_size)) (g_law_some_size : mg "_law_some_size" = some (.ref f_law_some_size)) (k_law_some_size : PySem.W.keepIn K (.ref f_law_some_size) = true) (b_law_some_size : Binds K fd_law_some_size ["_law_bag_here", "_law_most"] [])
    {f_law_bag : Addr} {fd_law_bag : FuncData} (F_law_bag : FnG P w K mg base 1 f_law_bag fd_law_bag ["_law_script"] (spD K [.S] sd_law_bag)) (g_law_bag : mg "_law_bag" = some (.ref f_law_bag)) (k_law_bag : PySem.W.keepIn K (.ref f_law_bag) = true) (b_law_bag : Binds K fd_law_bag ["_law_script"] []) (mk_Ring : Mk K C_Ring f_Ring___init__) (g_Ring : mg "Ring" = some (.ref C_Ring)) (z_range : mg "range" = none) (z_list : mg "list" = none)
    {sd : DSp} (hv : ∀ ds Qd Ed, ds.length = 1 → sd ds Qd Ed → m_law C_Ring sd_law_laps_right sd_law_steps_right sd_law_order_right sd_lap_rates sd_Ring___init__ sd_card_of sd_law_schedule sd_law_ranks sd_law_some_size sd_law_bag (endsD [.S] Qd) (startD ["_law_script", "_law_bag_here", "_law_go", "_law_size", "_law_card", "_law_laps", "_law_ranks_here", "_law_schedule_here"] [.S] ds)) :
    FnG P w K mg base 9 f fd ["_law_script"] (spD K [.S] sd) := by
  refine fn_dm (N := ["_law_script", "_law_bag_here", "_law_go", "_law_size", "_law_card", "_law_laps", "_law_ranks_here", "_law_schedule_here"]) F sc_law rfl hv fun cdv A outer s H0 vs E O H hg hr => ?_
  have sc := sc_law
  unfold m_law
  exact ⟨_, (ds_cons (ds_setO (de_call F_law_bag hg (hr.mono (by decide)) (by rfl) g_law_bag k_law_bag b_law_bag (da_cons (de_var 0 (pv 0)) da_nil)) (fun h => ps_set (i := 1) sc.nd rfl (by first | exact Or.inl rfl | exact Or.inr rfl) h))
    (ds_cons (ds_for PassesOwn.never rfl (di_rng1 (by rfl) z_range (da_cons de_int da_nil)) (fun _ => (dg_name 2 (pg_name (i := 2) sc.nd rfl (by first | exact Or.inl rfl | exact Or.inr rfl)))) (fun _ => (ds_cons (ds_set (de_call F_law_some_size hg (hr.mono (by decide)) (by rfl) g_law_some_size k_law_some_size b_law_some_size (da_cons (de_var 1 (pv 1)) (da_cons de_int da_nil))) (fun h => ps_set (i := 3) sc.nd rfl (by first | exact Or.inl rfl | exact Or.inr rfl) h))
    (ds_cons (ds_par2 (fun h => ps_par (i := 6) (j := 7) rfl sc.nd rfl rfl (by decide) rfl rfl h (by rfl)) (dp_cons (de_call F_law_ranks hg (hr.mono (by decide)) (by rfl) g_law_ranks k_law_ranks b_law_ranks (da_cons (de_var 1 (pv 1)) (da_cons (de_var 3 (pv 3)) da_nil))) (fun _ => (dp_cons (de_call F_law_schedule hg (hr.mono (by decide)) (by rfl) g_law_schedule k_law_schedule b_law_schedule (da_cons (de_var 1 (pv 1)) (da_cons (de_var 3 (pv 3)) (da_cons de_int da_nil)))) (fun _ => dp_nil)))) (sim_tsh (sim_tsh sim_tnil 7) 6))
    (ds_cons (ds_set (de_call F_card_of hg (hr.mono (by decide)) (by rfl) g_card_of k_card_of b_card_of (da_cons (de_var 3 (pv 3)) (da_cons (de_list (by rfl) z_list (da_cons (de_var 7 (pv 7)) da_nil)) da_nil))) (fun h => ps_set (i := 4) sc.nd rfl (by first | exact Or.inl rfl | exact Or.inr rfl) h))
    (ds_cons (ds_set (de_call F_lap_rates hg (hr.mono (by decide)) (by rfl) g_lap_rates k_lap_rates b_lap_rates (da_cons (de_var 4 (pv 4)) (da_cons (de_make mk_Ring F_Ring___init__ hg (hr.mono (by decide)) (by rfl) g_Ring b_Ring___init__ (da_cons (de_list (by rfl) z_list (da_cons (de_var 6 (pv 6)) da_nil)) da_nil)) da_nil))) (fun h => ps_set (i := 5) sc.nd rfl (by first | exact Or.inl rfl | exact Or.inr rfl) h))
    (ds_cons (ds_if (dw_pt (dw_or (dt_not (dt_val (de_call F_law_order_right hg (hr.mono (by decide)) (by rfl) g_law_order_right k_law_order_right b_law_order_right (da_cons (de_var 6 (pv 6)) (da_cons (de_var 5 (pv 5)) da_nil))))) (dw_or1 (dt_not (dt_val (de_call F_law_steps_right hg (hr.mono (by decide)) (by rfl) g_law_steps_right k_law_steps_right b_law_steps_right (da_cons (de_var 4 (pv 4)) da_nil))))))) (ds_one (ds_ret de_bl)) ds_nil)
    (ds_one (ds_if (dt_not (dt_val (de_call F_law_laps_right hg (hr.mono (by decide)) (by rfl) g_law_laps_right k_law_laps_right b_law_laps_right (da_cons (de_var 6 (pv 6)) (da_cons (de_var 7 (pv 7)) (da_cons (de_var 5 (pv 5)) da_nil)))))) (ds_one (ds_ret de_bl)) ds_nil)))))))))
    (ds_one (ds_ret de_bl))))⟩
end
end LW
namespace LW
open PySem PySem.Spec PyProof.Rows L2 DL
set_option hygiene false in
local macro_rules | `(tactic| lcg_sub) => `(tactic| repeat (first | ((with_reducible apply e_V); exact rfl) | (with_reducible apply v_sh) | (with_reducible apply v_io) | (with_reducible apply v_ow) | (with_reducible apply v_bo) | ((with_reducible apply e_op2); exact rfl; exact rfl) | (with_reducible apply e_op) | (with_reducible apply e_cons) | (with_reducible apply e_C) | (with_reducible apply e_nil) | (with_reducible apply s_seq) | (with_reducible apply e_Tt) | (with_reducible apply e_Ff) | (with_reducible apply e_nTt) | (with_reducible apply e_nFf) | ((with_reducible apply e_dT); first | with_reducible assumption | omega | with_reducible rfl) | ((with_reducible apply e_dF); first | with_reducible assumption | omega | with_reducible rfl) | ((with_reducible apply e_nT); first | with_reducible assumption | omega | with_reducible rfl) | ((with_reducible apply e_nF); first | with_reducible assumption | omega | with_reducible rfl) | ((with_reducible apply i_ix); first | exact atI_0 | exact atI_1 | exact atI_2 | exact atI_3) | ((with_reducible apply i_ixT); first | exact atI_0 | exact atI_1 | exact atI_2 | exact atI_3) | ((with_reducible apply i_ix); first | exact atI_ints (by omega)) | ((with_reducible apply i_ixT); first | exact atI_ints (by omega)) | ((with_reducible apply e_ptV); exact rfl; (first | (simp only [wipeD, List.set_cons_zero, List.set_cons_succ]; exact rfl) | exact rfl)) | ((with_reducible apply e_ptN); exact rfl; (first | (simp only [wipeD, List.set_cons_zero, List.set_cons_succ]; exact rfl) | exact rfl)) | ((with_reducible apply e_ptF); exact rfl; (first | (simp only [wipeD, List.set_cons_zero, List.set_cons_succ]; exact rfl) | exact rfl); first | exact rfl | exact bag_frD (by assumption)) | ((with_reducible apply d_val); exact rfl) | ((with_reducible apply d_fr); exact rfl) | ((with_reducible apply d_pl); exact rfl; exact rfl) | ((with_reducible apply d_np); exact rfl) | ((with_reducible apply e_call); exact rfl; (first | exact rfl | decide); exact rfl) | (with_reducible apply e_test) | (with_reducible apply e_tst) | ((with_reducible apply e_cb); exact rfl) | (with_reducible apply e_andv) | ((with_reducible apply e_lst); exact rfl; first | decide | (simp only [List.length_cons, List.length_nil]; omega) | rotate_left) | (with_reducible apply e_yes) | ((with_reducible apply c_fk); exact rfl; (first | (simp only [restD, List.set_cons_zero, List.set_cons_succ, List.getElem?_cons_zero, List.getElem?_cons_succ, Option.getD_some]; exact rfl) | exact rfl)) | ((with_reducible apply gkT); first | (with_reducible apply t_nil) | ((with_reducible apply t_sh); exact rfl; (first | exact rfl | assumption); (first | (simp only [wipeD, List.set_cons_zero, List.set_cons_succ]; exact rfl) | exact rfl)) | ((with_reducible apply t_ow); (first | exact rfl | assumption); (first | (simp only [wipeD, List.set_cons_zero, List.set_cons_succ]; exact rfl) | exact rfl)) | ((with_reducible apply t_sub); exact rfl) | ((with_reducible apply t_gen); exact rfl) | ((with_reducible apply s_set); exact rfl; (first | exact rfl | assumption); (first | (simp only [wipeD, List.set_cons_zero, List.set_cons_succ]; exact rfl) | exact rfl)) | ((with_reducible apply g_name); (first | exact rfl | assumption); (first | (simp only [wipeD, List.set_cons_zero, List.set_cons_succ]; exact rfl) | exact rfl)) | (with_reducible apply g_cons) | (with_reducible apply g_Sub) | ((with_reducible apply g_sub); exact rfl; exact rfl) | ((with_reducible apply s_asg); exact rfl) | ((with_reducible apply s_setO); (first | exact rfl | assumption); (first | (simp only [wipeD, List.set_cons_zero, List.set_cons_succ]; exact rfl) | exact rfl)) | (with_reducible apply g_nil) | ((with_reducible apply g_tup); exact rfl) | ((with_reducible apply s_a1); exact rfl; first | exact atI_0 | exact atI_1 | exact atI_2 | exact atI_3 | exact atI_ints (by omega)) | ((with_reducible apply s_a2); exact rfl) | ((with_reducible apply s_setF); exact rfl; exact rfl; decide; exact rfl; exact rfl; exact rfl; (first | (simp only [wipeD, List.set_cons_zero, List.set_cons_succ]; exact rfl) | exact rfl)) | ((with_reducible apply s_setEv); (first | exact rfl | assumption); (first | (simp only [wipeD, List.set_cons_zero, List.set_cons_succ]; exact rfl) | exact rfl)) | ((with_reducible apply s_setEo); (first | exact rfl | assumption); (first | (simp only [wipeD, List.set_cons_zero, List.set_cons_succ]; exact rfl) | exact rfl)) | ((with_reducible apply g_unl); exact rfl) | ((with_reducible apply s_aug); exact rfl) | (with_reducible apply g_Slc) | (with_reducible apply g_All) | ((with_reducible apply g_all); exact rfl; (simp only [List.length_map, List.length_append, List.length_cons, List.length_nil] at *; omega); exact rfl; (first | (simp only [wipeD, List.set_cons_zero, List.set_cons_succ]; exact rfl) | exact rfl))) | ((with_reducible apply gkO); first | (with_reducible apply i_add) | ((with_reducible apply i_addL); first | (simp only [List.length_map, List.length_append, List.length_cons, List.length_nil] at *; omega) | rotate_left) | ((with_reducible apply i_addS); rotate_left) | (with_reducible apply i_sub) | ((with_reducible apply i_mul); first | exact mulOk_r (by decide) (by decide) | exact mulOk_l (by decide) (by decide) | exact mulOk_r (by omega) (by omega) | exact mulOk_l (by omega) (by omega) | rotate_left) | ((with_reducible apply i_mulR); omega) | ((with_reducible apply i_mod); first | decide | with_reducible assumption | omega | rotate_left) | (with_reducible apply i_eqI) | (with_reducible apply i_eqL) | (with_reducible apply i_eqT) | (with_reducible apply i_eqB) | ((with_reducible apply i_eqC (b := true)); decide +kernel; decide +kernel; decide +kernel) | ((with_reducible apply i_eqC (b := false)); decide +kernel; decide +kernel; decide +kernel) | (with_reducible apply i_gt) | (with_reducible apply i_lt) | (with_reducible apply i_ge) | ((with_reducible apply i_div); first | exact divW_of (by decide) (by decide) | exact divW_of (by omega) (by omega) | rotate_left) | ((with_reducible apply i_powN); (simp only [Int.reduceToNat]; exact rfl); exact ⟨by decide, by decide⟩) | ((with_reducible apply i_pow); first | exact ⟨by decide, by decide⟩ | rotate_left) | (with_reducible apply i_neI) | (with_reducible apply i_neL) | (with_reducible apply i_neT) | (with_reducible apply i_neB) | ((with_reducible apply i_neC (b := true)); decide +kernel; decide +kernel; decide +kernel) | ((with_reducible apply i_neC (b := false)); decide +kernel; decide +kernel; decide +kernel) | (with_reducible apply i_neg) | (with_reducible apply i_eqEmp) | (with_reducible apply i_neEmp) | (with_reducible apply i_addI) | (with_reducible apply i_le) | (with_reducible apply i_eqEmT) | (with_reducible apply i_inSS) | (with_reducible apply i_subI) | (with_reducible apply i_isB) | (with_reducible apply i_isnB) | ((with_reducible apply i_inF (b := true)); exact rfl; exact rfl; (first | exact rfl | decide +kernel)) | ((with_reducible apply i_inF (b := false)); exact rfl; exact rfl; (first | exact rfl | decide +kernel)) | ((with_reducible apply i_ninF (b := true)); exact rfl; exact rfl; (first | exact rfl | decide +kernel)) | ((with_reducible apply i_ninF (b := false)); exact rfl; exact rfl; (first | exact rfl | decide +kernel))) | ((with_reducible apply gkE); first | (with_reducible apply e_Call) | (with_reducible apply e_CB) | (with_reducible apply w_Comp) | (with_reducible apply e_Lst) | (with_reducible apply e_Fld) | ((with_reducible apply e_fld); exact rfl; first | exact fld_1 | exact fld_2 (by decide +kernel) | rotate_left) | (with_reducible apply e_Isi) | ((with_reducible apply e_isiT); exact rfl; exact rfl; exact rfl) | ((with_reducible apply e_isiF); exact rfl; exact rfl; exact rfl) | (with_reducible apply e_andV) | (with_reducible apply e_Tup) | (with_reducible apply e_Mut) | ((with_reducible apply e_mu0); exact rfl) | ((with_reducible apply e_mu1); exact rfl; exact rfl) | (with_reducible apply e_if) | (with_reducible apply e_un) | (with_reducible apply e_LRg) | ((with_reducible apply e_lrg); exact RgOk.of_le (by omega) (by omega) (by omega) (by omega)) | ((with_reducible apply e_isiTuT); exact rfl; exact rfl; exact rfl) | ((with_reducible apply e_isiTuF); exact rfl; exact rfl; exact rfl) | (with_reducible apply e_Sl) | (with_reducible apply e_Make) | (with_reducible apply e_notV) | (with_reducible apply e_notv) | (with_reducible apply e_IsiTu) | ((with_reducible apply e_xisTF); (first | exact rfl | decide +kernel)) | ((with_reducible apply e_xisTT); (first | exact rfl | decide +kernel)) | (with_reducible apply e_Chain) | (with_reducible apply e_ch1) | (with_reducible apply e_ch2) | ((with_reducible apply e_MakeL); exact rfl) | (with_reducible apply e_NeTO) | (with_reducible apply e_SortItems) | (with_reducible apply e_Count) | ((with_reducible apply e_cna); exact rfl; exact rfl) | ((with_reducible apply i_count); exact rfl; exact rfl) | (with_reducible apply e_Index) | ((with_reducible apply e_ida); exact rfl; exact rfl) | (with_reducible apply e_XisT) | (with_reducible apply e_orV) | (with_reducible apply e_RevL) | (with_reducible apply e_TRg) | (with_reducible apply e_SRg) | (with_reducible apply e_Dict0) | ((with_reducible apply e_revL); exact rfl) | (with_reducible apply w_SS) | (with_reducible apply w_Comp2) | (with_reducible apply e_ReprO) | (with_reducible apply e_LenO) | ((with_reducible apply e_reprO); exact rfl) | ((with_reducible apply e_lenO); exact rfl) | (with_reducible apply e_Fmt) | ((with_reducible apply e_fmtL); exact rfl; rotate_left) | (with_reducible apply e_Joined) | (with_reducible apply e_MutF) | (with_reducible apply e_mutF) | ((with_reducible apply w_ss); exact rfl; (first | omega | rotate_left); intro sset hsset hsset2) | (with_reducible apply e_IsO) | ((with_reducible apply e_isO); exact rfl; first | exact isO_self | exact rfl) | (with_reducible apply e_EqO) | ((with_reducible apply e_eqO); exact rfl; exact rfl) | ((with_reducible apply e_trg); exact RgOk.of_le (by omega) (by omega) (by omega) (by omega)) | ((with_reducible apply e_srg); exact RgOk.of_le (by omega) (by omega) (by omega) (by omega)) | ((with_reducible apply e_Bor); (first | (simp only [allSh, shS, List.map_cons, List.map_nil]; exact rfl) | exact rfl)) | ((with_reducible apply e_kb); exact rfl) | ((with_reducible apply e_ks); exact rfl) | ((with_reducible apply e_ko); exact rfl) | (with_reducible apply e_CallX) | (with_reducible apply e_Xis) | ((with_reducible apply e_xis); (first | exact rfl | decide +kernel)) | (with_reducible apply e_Xf) | ((with_reducible apply e_xf); (first | exact rfl | decide +kernel); (first | exact rfl | decide +kernel)) | (with_reducible apply e_DGet2) | (with_reducible apply e_DGet1) | (with_reducible apply e_Lock) | (with_reducible apply e_lkK) | (with_reducible apply e_lkT) | (with_reducible apply e_Dict1) | (with_reducible apply e_Dict0T) | (with_reducible apply e_Dict1T) | ((with_reducible apply e_g2a); exact rfl; exact rfl) | ((with_reducible apply e_g1a); exact rfl; exact rfl) | ((with_reducible apply e_d1); exact rfl; exact rfl) | ((with_reducible apply e_d1s); exact rfl; exact rfl) | ((with_reducible apply e_d1T); exact rfl; exact rfl) | (with_reducible apply e_EqX) | (with_reducible apply e_OrT) | ((with_reducible apply e_eqX); exact rfl; exact rfl; exact rfl) | (with_reducible apply e_LenSet)) | ((with_reducible apply gkS); first | (with_reducible apply s_ret) | (with_reducible apply s_Set) | (with_reducible apply s_if) | (with_reducible apply s_next) | (with_reducible apply s_Par) | (with_reducible apply s_For) | (with_reducible apply s_Asg) | (with_reducible apply s_drop) | (with_reducible apply s_SetO) | (with_reducible apply s_Par3) | ((with_reducible apply s_frz); exact rfl) | (with_reducible apply s_AugS) | (with_reducible apply s_SetF) | (with_reducible apply s_brk) | (with_reducible apply s_cnt) | (with_reducible apply s_retN) | (with_reducible apply s_SetE) | ((with_reducible apply s_Aug); exact rfl) | (with_reducible apply s_Scr) | (with_reducible apply s_Raise) | (with_reducible apply s_TryAs) | (with_reducible apply s_Try) | (with_reducible apply s_Raise0) | (with_reducible apply s_DPut) | ((with_reducible apply s_frzL); exact rfl; exact rfl; (first | (simp only [wipeD, List.set_cons_zero, List.set_cons_succ]; exact rfl) | exact rfl)) | ((with_reducible apply s_Np); (first | exact rfl | (simp only [freeE, Bool.and_eq_true, Bool.and_true]; (repeat' constructor) <;> first | rfl | assumption)); exact rfl; (first | (simp only [boxE, boxS]; exact rfl) | exact rfl)) | (with_reducible apply s_RetNP)) | ((with_reducible apply gkB); first | (with_reducible apply i_lenI) | (with_reducible apply i_len) | (with_reducible apply i_lenTI) | (with_reducible apply i_lenT) | (with_reducible apply i_lenC) | ((with_reducible apply i_lenS); first | omega | with_reducible assumption | rotate_left) | (with_reducible apply i_min) | ((with_reducible apply i_minL); (first | omega | rotate_left); intro least hleast hleast2) | ((with_reducible apply i_minT); (first | omega | rotate_left); intro least hleast hleast2) | (with_reducible apply i_list) | (with_reducible apply i_listT) | (with_reducible apply i_listC) | (with_reducible apply i_abs) | (with_reducible apply i_int) | (with_reducible apply i_intB) | (with_reducible apply i_max) | (with_reducible apply i_max3) | ((with_reducible apply i_maxL); (first | omega | rotate_left); intro most hmost hmost2) | ((with_reducible apply i_maxT); (first | omega | rotate_left); intro most hmost hmost2) | (with_reducible apply i_all) | ((with_reducible apply i_divmod); first | exact ⟨by omega, by omega⟩ | rotate_left) | (with_reducible apply i_tuple) | (with_reducible apply i_tupleT) | (with_reducible apply i_sum) | (with_reducible apply i_sumT) | (with_reducible apply i_any) | (with_reducible apply i_repr0)) | ((with_reducible apply gkL); first | (with_reducible apply p_Cons) | ((with_reducible apply p_cons); exact rfl) | (with_reducible apply p_nil) | (with_reducible apply e_Self) | ((with_reducible apply e_self); exact rfl; decide +kernel) | (with_reducible apply e_Self1) | ((with_reducible apply e_self1); exact rfl) | (with_reducible apply e_PairO) | ((with_reducible apply e_pairO); exact rfl; exact rfl) | (with_reducible apply e_Cls) | (with_reducible apply e_Snoc)) | ((with_reducible apply gkW); first | (with_reducible apply w_Seq) | ((with_reducible apply w_seq); exact rfl; exact rfl) | (with_reducible apply w_Rng1) | ((with_reducible apply w_rng1); first | decide | omega | rotate_left) | (with_reducible apply w_SeqT) | ((with_reducible apply w_seqt); exact rfl) | (with_reducible apply w_Enum) | ((with_reducible apply w_enum); exact rfl; exact rfl) | (with_reducible apply w_Rng2) | ((with_reducible apply w_rng2); first | decide | omega | rotate_left) | (with_reducible apply w_Zip) | ((with_reducible apply w_zip); exact rfl; exact rfl) | (with_reducible apply w_Rev) | ((with_reducible apply w_rvd); exact rfl; exact rfl) | (with_reducible apply w_KeysW) | (with_reducible apply w_ItemsW) | (with_reducible apply w_ValsW) | ((with_reducible apply w_kw); intro dko dkv) | (with_reducible apply w_Rng3) | (with_reducible apply w_KeysWT) | (with_reducible apply w_ItemsWT) | ((with_reducible apply w_kwT); intro dko dkv)) | ((with_reducible apply gkX); first | ((with_reducible apply i_take); with_reducible assumption; (first | decide | omega | rotate_left); (first | decide | omega | rotate_left); intro drawn bag hdrawn0 hdrawn1 hbag) | ((with_reducible apply i_bag); intro bag hbag) | ((with_reducible apply i_standing); (first | decide | with_reducible assumption | omega | (simp only [List.length_map, List.length_append, List.length_cons, List.length_nil] at *; omega) | rotate_left)) | ((with_reducible apply i_Csize)) | ((with_reducible apply i_Rranks)) | ((with_reducible apply i_isint1)) | ((with_reducible apply i_sizeT); (first | decide | with_reducible assumption | omega | (simp only [List.length_map, List.length_append, List.length_cons, List.length_nil] at *; omega) | rotate_left); (first | decide | with_reducible assumption | omega | (simp only [List.length_map, List.length_append, List.length_cons, List.length_nil] at *; omega) | rotate_left)) | ((with_reducible apply i_Rinit); (first | decide | with_reducible assumption | omega | (simp only [List.length_map, List.length_append, List.length_cons, List.length_nil] at *; omega) | rotate_left); (first | decide | with_reducible assumption | omega | (simp only [List.length_map, List.length_append, List.length_cons, List.length_nil] at *; omega) | rotate_left)) | ((with_reducible apply i_Cinit)) | ((with_reducible apply i_Rstrong); (first | decide | with_reducible assumption | omega | (simp only [List.length_map, List.length_append, List.length_cons, List.length_nil] at *; omega) | rotate_left)) | ((with_reducible apply i_Rsize)) | ((with_reducible apply i_Rupto); (first | decide | with_reducible assumption | omega | (simp only [List.length_map, List.length_append, List.length_cons, List.length_nil] at *; omega) | rotate_left); (first | decide | with_reducible assumption | omega | (simp only [List.length_map, List.length_append, List.length_cons, List.length_nil] at *; omega) | rotate_left)) | ((with_reducible apply i_sched); (first | decide | with_reducible assumption | omega | (simp only [List.length_map, List.length_append, List.length_cons, List.length_nil] at *; omega) | rotate_left); (first | decide | with_reducible assumption | omega | (simp only [List.length_map, List.length_append, List.length_cons, List.length_nil] at *; omega) | rotate_left); (first | decide | with_reducible assumption | omega | (simp only [List.length_map, List.length_append, List.length_cons, List.length_nil] at *; omega) | rotate_left); (first | decide | with_reducible assumption | omega | (simp only [List.length_map, List.length_append, List.length_cons, List.length_nil] at *; omega) | rotate_left); (first | decide | with_reducible assumption | omega | (simp only [List.length_map, List.length_append, List.length_cons, List.length_nil] at *; omega) | rotate_left); intro gaps bag hgapsl hgaps hbag) | ((with_reducible apply i_ranks); (first | decide | with_reducible assumption | omega | (simp only [List.length_map, List.length_append, List.length_cons, List.length_nil] at *; omega) | rotate_left); (first | decide | with_reducible assumption | omega | (simp only [List.length_map, List.length_append, List.length_cons, List.length_nil] at *; omega) | rotate_left); (first | decide | with_reducible assumption | omega | (simp only [List.length_map, List.length_append, List.length_cons, List.length_nil] at *; omega) | rotate_left); intro ranks bag hranksl hranksb hbag) | ((with_reducible apply i_some); (first | decide | with_reducible assumption | omega | (simp only [List.length_map, List.length_append, List.length_cons, List.length_nil] at *; omega) | rotate_left); (first | decide | with_reducible assumption | omega | (simp only [List.length_map, List.length_append, List.length_cons, List.length_nil] at *; omega) | rotate_left); (first | decide | with_reducible assumption | omega | (simp only [List.length_map, List.length_append, List.length_cons, List.length_nil] at *; omega) | rotate_left); intro size bag hsize0 hsize1 hbag)) | ((with_reducible apply g_set); exact rfl; (first | (simp only [wipeD, List.set_cons_zero, List.set_cons_succ]; exact rfl) | exact rfl)) | ((with_reducible apply i_stN); (first | omega | (simp only [List.length_set]; omega))) | ((with_reducible apply i_stP); omega; (first | omega | (simp only [List.length_set]; omega))) | ((with_reducible apply i_st); first | exact ixN_0 | exact ixN_1 | exact ixN_2 | exact ixN_3 | exact ixN_pos (by omega) (by omega)) | ((with_reducible apply e_tup); exact rfl; first | decide | (simp only [List.length_cons, List.length_nil]; omega) | rotate_left) | ((with_reducible apply e_st); exact rfl; (first | (simp only [wipeD, List.set_cons_zero, List.set_cons_succ]; exact rfl) | exact rfl)) | ((with_reducible apply i_appendI); first | omega | (simp only [List.length_append, List.length_cons, List.length_nil] at *; omega) | rotate_left) | ((with_reducible apply i_append); first | decide | omega | (simp only [List.length_map, List.length_append, List.length_cons, List.length_nil] at *; omega) | rotate_left) | ((with_reducible apply s_par3); exact rfl) | ((with_reducible apply c_ik); exact rfl; (first | omega | (simp only [List.length_append, List.length_cons, List.length_nil, List.length_map] at *; omega) | rotate_left); (first | (simp only [restD, List.set_cons_zero, List.set_cons_succ, List.getElem?_cons_zero, List.getElem?_cons_succ, Option.getD_some]; exact rfl) | exact rfl)) | (with_reducible apply i_sl1) | (with_reducible apply i_slL) | (with_reducible apply i_slC) | (with_reducible apply i_slT) | (with_reducible apply e_Rg1) | (with_reducible apply e_rg1) | ((with_reducible apply e_op1); exact rfl) | ((with_reducible apply e_make); exact rfl; (first | exact rfl | decide); exact rfl) | ((with_reducible apply e_mak); exact rfl; (first | (simp only [wipeD, List.set_cons_zero, List.set_cons_succ]; exact rfl) | exact rfl)) | (with_reducible apply e_or) | (with_reducible apply e_not) | (with_reducible apply e_noP) | (with_reducible apply e_Part) | (with_reducible apply e_part) | ((with_reducible apply e_sl); exact rfl) | ((with_reducible apply s_a3); exact rfl; (first | exact ixN_0 | exact ixN_1 | exact ixN_2 | exact ixN_3 | exact ixN_pos (by omega) (by omega)); exact rfl; (first | (simp only [wipeD, List.set_cons_zero, List.set_cons_succ]; exact rfl) | exact rfl)) | (with_reducible apply e_and) | ((with_reducible apply i_catA); first | (simp only [List.length_map, List.length_append, List.length_cons, List.length_nil] at *; omega) | rotate_left) | (with_reducible apply i_reverse) | (with_reducible apply i_clear) | (with_reducible apply e_orv) | (with_reducible apply e_Rg2) | (with_reducible apply e_rg2) | ((with_reducible apply s_av); (first | exact rfl | assumption); (first | (simp only [wipeD, List.set_cons_zero, List.set_cons_succ]; exact rfl) | exact rfl)) | (with_reducible apply rpk_in) | ((with_reducible apply lnk_in); (first | omega | rotate_left); (first | omega | rotate_left)) | (with_reducible apply e_jsN) | (with_reducible apply e_Js) | ((with_reducible apply e_js); rotate_left) | ((with_reducible apply i_popI); omega; omega; omega) | ((with_reducible apply i_insert0); first | decide | omega | rotate_left) | (with_reducible apply e_eqkI) | (with_reducible apply e_eqkF) | (with_reducible apply e_eqkT) | (with_reducible apply e_eqk) | ((with_reducible apply e_bor); exact rfl) | ((with_reducible apply s_scr); exact rfl; (simp only [List.length_cons, List.length_nil]; omega); (first | exact rfl | (simp only [freeE, Bool.and_eq_true, Bool.and_true]; (repeat' constructor) <;> first | rfl | assumption)); decide; (first | (simp only [killE]; exact rfl) | exact rfl); (first | (simp only [boxE, boxS, List.set_cons_zero, List.set_cons_succ]; exact rfl) | exact rfl); rotate_left) | ((with_reducible apply b_nx); exact rfl) | ((with_reducible apply b_rt); exact rfl; exact rfl) | ((with_reducible apply e_callX); exact rfl; (first | exact rfl | decide); exact rfl) | ((with_reducible apply e_xt); exact rfl; (first | (simp only [wipeD, List.set_cons_zero, List.set_cons_succ]; exact rfl) | exact rfl)) | ((with_reducible apply s_raise); exact rfl; exact rfl; (simp only [List.length_cons, List.length_nil]; omega); exact rfl; exact rfl) | ((with_reducible apply d_x); exact rfl) | ((with_reducible apply x_T); (first | exact rfl | decide +kernel); exact rfl; intro xa xG hxG; simp only [List.set_cons_zero, List.set_cons_succ] at hxG; subst hxG) | ((with_reducible apply x_F); (first | exact rfl | decide +kernel)) | ((with_reducible apply y_T); (first | exact rfl | decide +kernel); intro xa) | ((with_reducible apply y_F); (first | exact rfl | decide +kernel)) | ((with_reducible apply u_nk); exact rfl; (first | (simp only [wipeD, List.set_cons_zero, List.set_cons_succ]; exact rfl) | exact rfl)) | ((with_reducible apply w_down); first | omega | rotate_left) | ((with_reducible apply e_lenset); exact rfl; first | exact Nat.lt_of_le_of_lt (difN_le _) (by omega) | omega | with_reducible assumption | (simp only [List.length_map, List.length_append, List.length_cons, List.length_nil] at *; omega) | rotate_left) | ((with_reducible apply s_npk); (first | exact rfl | (simp only [boxE, boxS])); (first | (simp only [killE]; exact rfl) | exact rfl); (first | (simp only [List.set_cons_zero, List.set_cons_succ]; exact rfl) | exact rfl); first | decide | omega | (simp only [List.length_map, List.length_append, List.length_cons, List.length_nil] at *; omega) | rotate_left) | ((with_reducible apply s_npkV); (first | exact rfl | (simp only [boxE, boxS])); (first | (simp only [killE]; exact rfl) | exact rfl); (first | (simp only [List.set_cons_zero, List.set_cons_succ]; exact rfl) | exact rfl)) | (with_reducible apply s_npv) | ((with_reducible apply s_npw); (first | exact rfl | decide | (refine decide_eq_false ?_; omega) | rotate_left); exact rfl) | (with_reducible apply s_npn) | ((with_reducible apply s_kill); exact rfl) | ((with_reducible apply s_klk); exact rfl) | ((with_reducible apply s_npe); exact rfl) | ((with_reducible apply s_rnpF); exact rfl) | ((with_reducible apply s_rnpP); exact rfl; exact rfl; (first | (simp only [wipeD, List.set_cons_zero, List.set_cons_succ]; exact rfl) | exact rfl))))
set_option hygiene false in
local macro_rules | `(tactic| lcg_off) => `(tactic| repeat' (first | ((with_reducible apply e_V); exact rfl) | (with_reducible apply v_sh) | (with_reducible apply v_io) | (with_reducible apply v_ow) | (with_reducible apply v_bo) | ((with_reducible apply e_op2); exact rfl; exact rfl) | (with_reducible apply e_op) | (with_reducible apply e_cons) | (with_reducible apply e_C) | (with_reducible apply e_nil) | (with_reducible apply s_seq) | (with_reducible apply e_Tt) | (with_reducible apply e_Ff) | (with_reducible apply e_nTt) | (with_reducible apply e_nFf) | ((with_reducible apply e_dT); first | with_reducible assumption | omega | with_reducible rfl) | ((with_reducible apply e_dF); first | with_reducible assumption | omega | with_reducible rfl) | ((with_reducible apply e_nT); first | with_reducible assumption | omega | with_reducible rfl) | ((with_reducible apply e_nF); first | with_reducible assumption | omega | with_reducible rfl) | ((with_reducible apply i_ix); first | exact atI_0 | exact atI_1 | exact atI_2 | exact atI_3) | ((with_reducible apply i_ixT); first | exact atI_0 | exact atI_1 | exact atI_2 | exact atI_3) | ((with_reducible apply i_ix); first | exact atI_ints (by omega)) | ((with_reducible apply i_ixT); first | exact atI_ints (by omega)) | ((with_reducible apply e_ptV); exact rfl; (first | (simp only [wipeD, List.set_cons_zero, List.set_cons_succ]; exact rfl) | exact rfl)) | ((with_reducible apply e_ptN); exact rfl; (first | (simp only [wipeD, List.set_cons_zero, List.set_cons_succ]; exact rfl) | exact rfl)) | ((with_reducible apply e_ptF); exact rfl; (first | (simp only [wipeD, List.set_cons_zero, List.set_cons_succ]; exact rfl) | exact rfl); first | exact rfl | exact bag_frD (by assumption)) | ((with_reducible apply d_val); exact rfl) | ((with_reducible apply d_fr); exact rfl) | ((with_reducible apply d_pl); exact rfl; exact rfl) | ((with_reducible apply d_np); exact rfl) | ((with_reducible apply e_call); exact rfl; (first | exact rfl | decide); exact rfl) | (with_reducible apply e_test) | (with_reducible apply e_tst) | ((with_reducible apply e_cb); exact rfl) | (with_reducible apply e_andv) | ((with_reducible apply e_lst); exact rfl; first | decide | (simp only [List.length_cons, List.length_nil]; omega) | rotate_left) | (with_reducible apply e_yes) | ((with_reducible apply c_fk); exact rfl; (first | (simp only [restD, List.set_cons_zero, List.set_cons_succ, List.getElem?_cons_zero, List.getElem?_cons_succ, Option.getD_some]; exact rfl) | exact rfl)) | ((with_reducible apply gkT); first | (with_reducible apply t_nil) | ((with_reducible apply t_sh); exact rfl; (first | exact rfl | assumption); (first | (simp only [wipeD, List.set_cons_zero, List.set_cons_succ]; exact rfl) | exact rfl)) | ((with_reducible apply t_ow); (first | exact rfl | assumption); (first | (simp only [wipeD, List.set_cons_zero, List.set_cons_succ]; exact rfl) | exact rfl)) | ((with_reducible apply t_sub); exact rfl) | ((with_reducible apply t_gen); exact rfl) | ((with_reducible apply s_set); exact rfl; (first | exact rfl | assumption); (first | (simp only [wipeD, List.set_cons_zero, List.set_cons_succ]; exact rfl) | exact rfl)) | ((with_reducible apply g_name); (first | exact rfl | assumption); (first | (simp only [wipeD, List.set_cons_zero, List.set_cons_succ]; exact rfl) | exact rfl)) | (with_reducible apply g_cons) | (with_reducible apply g_Sub) | ((with_reducible apply g_sub); exact rfl; exact rfl) | ((with_reducible apply s_asg); exact rfl) | ((with_reducible apply s_setO); (first | exact rfl | assumption); (first | (simp only [wipeD, List.set_cons_zero, List.set_cons_succ]; exact rfl) | exact rfl)) | (with_reducible apply g_nil) | ((with_reducible apply g_tup); exact rfl) | ((with_reducible apply s_a1); exact rfl; first | exact atI_0 | exact atI_1 | exact atI_2 | exact atI_3 | exact atI_ints (by omega)) | ((with_reducible apply s_a2); exact rfl) | ((with_reducible apply s_setF); exact rfl; exact rfl; decide; exact rfl; exact rfl; exact rfl; (first | (simp only [wipeD, List.set_cons_zero, List.set_cons_succ]; exact rfl) | exact rfl)) | ((with_reducible apply s_setEv); (first | exact rfl | assumption); (first | (simp only [wipeD, List.set_cons_zero, List.set_cons_succ]; exact rfl) | exact rfl)) | ((with_reducible apply s_setEo); (first | exact rfl | assumption); (first | (simp only [wipeD, List.set_cons_zero, List.set_cons_succ]; exact rfl) | exact rfl)) | ((with_reducible apply g_unl); exact rfl) | ((with_reducible apply s_aug); exact rfl) | (with_reducible apply g_Slc) | (with_reducible apply g_All) | ((with_reducible apply g_all); exact rfl; (simp only [List.length_map, List.length_append, List.length_cons, List.length_nil] at *; omega); exact rfl; (first | (simp only [wipeD, List.set_cons_zero, List.set_cons_succ]; exact rfl) | exact rfl))) | ((with_reducible apply gkO); first | (with_reducible apply i_add) | ((with_reducible apply i_addL); first | (simp only [List.length_map, List.length_append, List.length_cons, List.length_nil] at *; omega) | rotate_left) | ((with_reducible apply i_addS); rotate_left) | (with_reducible apply i_sub) | ((with_reducible apply i_mul); first | exact mulOk_r (by decide) (by decide) | exact mulOk_l (by decide) (by decide) | exact mulOk_r (by omega) (by omega) | exact mulOk_l (by omega) (by omega) | rotate_left) | ((with_reducible apply i_mulR); omega) | ((with_reducible apply i_mod); first | decide | with_reducible assumption | omega | rotate_left) | (with_reducible apply i_eqI) | (with_reducible apply i_eqL) | (with_reducible apply i_eqT) | (with_reducible apply i_eqB) | ((with_reducible apply i_eqC (b := true)); decide +kernel; decide +kernel; decide +kernel) | ((with_reducible apply i_eqC (b := false)); decide +kernel; decide +kernel; decide +kernel) | (with_reducible apply i_gt) | (with_reducible apply i_lt) | (with_reducible apply i_ge) | ((with_reducible apply i_div); first | exact divW_of (by decide) (by decide) | exact divW_of (by omega) (by omega) | rotate_left) | ((with_reducible apply i_powN); (simp only [Int.reduceToNat]; exact rfl); exact ⟨by decide, by decide⟩) | ((with_reducible apply i_pow); first | exact ⟨by decide, by decide⟩ | rotate_left) | (with_reducible apply i_neI) | (with_reducible apply i_neL) | (with_reducible apply i_neT) | (with_reducible apply i_neB) | ((with_reducible apply i_neC (b := true)); decide +kernel; decide +kernel; decide +kernel) | ((with_reducible apply i_neC (b := false)); decide +kernel; decide +kernel; decide +kernel) | (with_reducible apply i_neg) | (with_reducible apply i_eqEmp) | (with_reducible apply i_neEmp) | (with_reducible apply i_addI) | (with_reducible apply i_le) | (with_reducible apply i_eqEmT) | (with_reducible apply i_inSS) | (with_reducible apply i_subI) | (with_reducible apply i_isB) | (with_reducible apply i_isnB) | ((with_reducible apply i_inF (b := true)); exact rfl; exact rfl; (first | exact rfl | decide +kernel)) | ((with_reducible apply i_inF (b := false)); exact rfl; exact rfl; (first | exact rfl | decide +kernel)) | ((with_reducible apply i_ninF (b := true)); exact rfl; exact rfl; (first | exact rfl | decide +kernel)) | ((with_reducible apply i_ninF (b := false)); exact rfl; exact rfl; (first | exact rfl | decide +kernel))) | ((with_reducible apply gkE); first | (with_reducible apply e_Call) | (with_reducible apply e_CB) | (with_reducible apply w_Comp) | (with_reducible apply e_Lst) | (with_reducible apply e_Fld) | ((with_reducible apply e_fld); exact rfl; first | exact fld_1 | exact fld_2 (by decide +kernel) | rotate_left) | (with_reducible apply e_Isi) | ((with_reducible apply e_isiT); exact rfl; exact rfl; exact rfl) | ((with_reducible apply e_isiF); exact rfl; exact rfl; exact rfl) | (with_reducible apply e_andV) | (with_reducible apply e_Tup) | (with_reducible apply e_Mut) | ((with_reducible apply e_mu0); exact rfl) | ((with_reducible apply e_mu1); exact rfl; exact rfl) | (with_reducible apply e_if) | (with_reducible apply e_un) | (with_reducible apply e_LRg) | ((with_reducible apply e_lrg); exact RgOk.of_le (by omega) (by omega) (by omega) (by omega)) | ((with_reducible apply e_isiTuT); exact rfl; exact rfl; exact rfl) | ((with_reducible apply e_isiTuF); exact rfl; exact rfl; exact rfl) | (with_reducible apply e_Sl) | (with_reducible apply e_Make) | (with_reducible apply e_notV) | (with_reducible apply e_notv) | (with_reducible apply e_IsiTu) | ((with_reducible apply e_xisTF); (first | exact rfl | decide +kernel)) | ((with_reducible apply e_xisTT); (first | exact rfl | decide +kernel)) | (with_reducible apply e_Chain) | (with_reducible apply e_ch1) | (with_reducible apply e_ch2) | ((with_reducible apply e_MakeL); exact rfl) | (with_reducible apply e_NeTO) | (with_reducible apply e_SortItems) | (with_reducible apply e_Count) | ((with_reducible apply e_cna); exact rfl; exact rfl) | ((with_reducible apply i_count); exact rfl; exact rfl) | (with_reducible apply e_Index) | ((with_reducible apply e_ida); exact rfl; exact rfl) | (with_reducible apply e_XisT) | (with_reducible apply e_orV) | (with_reducible apply e_RevL) | (with_reducible apply e_TRg) | (with_reducible apply e_SRg) | (with_reducible apply e_Dict0) | ((with_reducible apply e_revL); exact rfl) | (with_reducible apply w_SS) | (with_reducible apply w_Comp2) | (with_reducible apply e_ReprO) | (with_reducible apply e_LenO) | ((with_reducible apply e_reprO); exact rfl) | ((with_reducible apply e_lenO); exact rfl) | (with_reducible apply e_Fmt) | ((with_reducible apply e_fmtL); exact rfl; rotate_left) | (with_reducible apply e_Joined) | (with_reducible apply e_MutF) | (with_reducible apply e_mutF) | ((with_reducible apply w_ss); exact rfl; (first | omega | rotate_left); intro sset hsset hsset2) | (with_reducible apply e_IsO) | ((with_reducible apply e_isO); exact rfl; first | exact isO_self | exact rfl) | (with_reducible apply e_EqO) | ((with_reducible apply e_eqO); exact rfl; exact rfl) | ((with_reducible apply e_trg); exact RgOk.of_le (by omega) (by omega) (by omega) (by omega)) | ((with_reducible apply e_srg); exact RgOk.of_le (by omega) (by omega) (by omega) (by omega)) | ((with_reducible apply e_Bor); (first | (simp only [allSh, shS, List.map_cons, List.map_nil]; exact rfl) | exact rfl)) | ((with_reducible apply e_kb); exact rfl) | ((with_reducible apply e_ks); exact rfl) | ((with_reducible apply e_ko); exact rfl) | (with_reducible apply e_CallX) | (with_reducible apply e_Xis) | ((with_reducible apply e_xis); (first | exact rfl | decide +kernel)) | (with_reducible apply e_Xf) | ((with_reducible apply e_xf); (first | exact rfl | decide +kernel); (first | exact rfl | decide +kernel)) | (with_reducible apply e_DGet2) | (with_reducible apply e_DGet1) | (with_reducible apply e_Lock) | (with_reducible apply e_lkK) | (with_reducible apply e_lkT) | (with_reducible apply e_Dict1) | (with_reducible apply e_Dict0T) | (with_reducible apply e_Dict1T) | ((with_reducible apply e_g2a); exact rfl; exact rfl) | ((with_reducible apply e_g1a); exact rfl; exact rfl) | ((with_reducible apply e_d1); exact rfl; exact rfl) | ((with_reducible apply e_d1s); exact rfl; exact rfl) | ((with_reducible apply e_d1T); exact rfl; exact rfl) | (with_reducible apply e_EqX) | (with_reducible apply e_OrT) | ((with_reducible apply e_eqX); exact rfl; exact rfl; exact rfl) | (with_reducible apply e_LenSet)) | ((with_reducible apply gkS); first | (with_reducible apply s_ret) | (with_reducible apply s_Set) | (with_reducible apply s_if) | (with_reducible apply s_next) | (with_reducible apply s_Par) | (with_reducible apply s_For) | (with_reducible apply s_Asg) | (with_reducible apply s_drop) | (with_reducible apply s_SetO) | (with_reducible apply s_Par3) | ((with_reducible apply s_frz); exact rfl) | (with_reducible apply s_AugS) | (with_reducible apply s_SetF) | (with_reducible apply s_brk) | (with_reducible apply s_cnt) | (with_reducible apply s_retN) | (with_reducible apply s_SetE) | ((with_reducible apply s_Aug); exact rfl) | (with_reducible apply s_Scr) | (with_reducible apply s_Raise) | (with_reducible apply s_TryAs) | (with_reducible apply s_Try) | (with_reducible apply s_Raise0) | (with_reducible apply s_DPut) | ((with_reducible apply s_frzL); exact rfl; exact rfl; (first | (simp only [wipeD, List.set_cons_zero, List.set_cons_succ]; exact rfl) | exact rfl)) | ((with_reducible apply s_Np); (first | exact rfl | (simp only [freeE, Bool.and_eq_true, Bool.and_true]; (repeat' constructor) <;> first | rfl | assumption)); exact rfl; (first | (simp only [boxE, boxS]; exact rfl) | exact rfl)) | (with_reducible apply s_RetNP)) | ((with_reducible apply gkB); first | (with_reducible apply i_lenI) | (with_reducible apply i_len) | (with_reducible apply i_lenTI) | (with_reducible apply i_lenT) | (with_reducible apply i_lenC) | ((with_reducible apply i_lenS); first | omega | with_reducible assumption | rotate_left) | (with_reducible apply i_min) | ((with_reducible apply i_minL); (first | omega | rotate_left); intro least hleast hleast2) | ((with_reducible apply i_minT); (first | omega | rotate_left); intro least hleast hleast2) | (with_reducible apply i_list) | (with_reducible apply i_listT) | (with_reducible apply i_listC) | (with_reducible apply i_abs) | (with_reducible apply i_int) | (with_reducible apply i_intB) | (with_reducible apply i_max) | (with_reducible apply i_max3) | ((with_reducible apply i_maxL); (first | omega | rotate_left); intro most hmost hmost2) | ((with_reducible apply i_maxT); (first | omega | rotate_left); intro most hmost hmost2) | (with_reducible apply i_all) | ((with_reducible apply i_divmod); first | exact ⟨by omega, by omega⟩ | rotate_left) | (with_reducible apply i_tuple) | (with_reducible apply i_tupleT) | (with_reducible apply i_sum) | (with_reducible apply i_sumT) | (with_reducible apply i_any) | (with_reducible apply i_repr0)) | ((with_reducible apply gkL); first | (with_reducible apply p_Cons) | ((with_reducible apply p_cons); exact rfl) | (with_reducible apply p_nil) | (with_reducible apply e_Self) | ((with_reducible apply e_self); exact rfl; decide +kernel) | (with_reducible apply e_Self1) | ((with_reducible apply e_self1); exact rfl) | (with_reducible apply e_PairO) | ((with_reducible apply e_pairO); exact rfl; exact rfl) | (with_reducible apply e_Cls) | (with_reducible apply e_Snoc)) | ((with_reducible apply gkW); first | (with_reducible apply w_Seq) | ((with_reducible apply w_seq); exact rfl; exact rfl) | (with_reducible apply w_Rng1) | ((with_reducible apply w_rng1); first | decide | omega | rotate_left) | (with_reducible apply w_SeqT) | ((with_reducible apply w_seqt); exact rfl) | (with_reducible apply w_Enum) | ((with_reducible apply w_enum); exact rfl; exact rfl) | (with_reducible apply w_Rng2) | ((with_reducible apply w_rng2); first | decide | omega | rotate_left) | (with_reducible apply w_Zip) | ((with_reducible apply w_zip); exact rfl; exact rfl) | (with_reducible apply w_Rev) | ((with_reducible apply w_rvd); exact rfl; exact rfl) | (with_reducible apply w_KeysW) | (with_reducible apply w_ItemsW) | (with_reducible apply w_ValsW) | ((with_reducible apply w_kw); intro dko dkv) | (with_reducible apply w_Rng3) | (with_reducible apply w_KeysWT) | (with_reducible apply w_ItemsWT) | ((with_reducible apply w_kwT); intro dko dkv)) | ((with_reducible apply gkX); first | ((with_reducible apply i_take); with_reducible assumption; (first | decide | omega | rotate_left); (first | decide | omega | rotate_left); intro drawn bag hdrawn0 hdrawn1 hbag) | ((with_reducible apply i_bag); intro bag hbag) | ((with_reducible apply i_standing); (first | decide | with_reducible assumption | omega | (simp only [List.length_map, List.length_append, List.length_cons, List.length_nil] at *; omega) | rotate_left)) | ((with_reducible apply i_Csize)) | ((with_reducible apply i_Rranks)) | ((with_reducible apply i_isint1)) | ((with_reducible apply i_sizeT); (first | decide | with_reducible assumption | omega | (simp only [List.length_map, List.length_append, List.length_cons, List.length_nil] at *; omega) | rotate_left); (first | decide | with_reducible assumption | omega | (simp only [List.length_map, List.length_append, List.length_cons, List.length_nil] at *; omega) | rotate_left)) | ((with_reducible apply i_Rinit); (first | decide | with_reducible assumption | omega | (simp only [List.length_map, List.length_append, List.length_cons, List.length_nil] at *; omega) | rotate_left); (first | decide | with_reducible assumption | omega | (simp only [List.length_map, List.length_append, List.length_cons, List.length_nil] at *; omega) | rotate_left)) | ((with_reducible apply i_Cinit)) | ((with_reducible apply i_Rstrong); (first | decide | with_reducible assumption | omega | (simp only [List.length_map, List.length_append, List.length_cons, List.length_nil] at *; omega) | rotate_left)) | ((with_reducible apply i_Rsize)) | ((with_reducible apply i_Rupto); (first | decide | with_reducible assumption | omega | (simp only [List.length_map, List.length_append, List.length_cons, List.length_nil] at *; omega) | rotate_left); (first | decide | with_reducible assumption | omega | (simp only [List.length_map, List.length_append, List.length_cons, List.length_nil] at *; omega) | rotate_left)) | ((with_reducible apply i_sched); (first | decide | with_reducible assumption | omega | (simp only [List.length_map, List.length_append, List.length_cons, List.length_nil] at *; omega) | rotate_left); (first | decide | with_reducible assumption | omega | (simp only [List.length_map, List.length_append, List.length_cons, List.length_nil] at *; omega) | rotate_left); (first | decide | with_reducible assumption | omega | (simp only [List.length_map, List.length_append, List.length_cons, List.length_nil] at *; omega) | rotate_left); (first | decide | with_reducible assumption | omega | (simp only [List.length_map, List.length_append, List.length_cons, List.length_nil] at *; omega) | rotate_left); (first | decide | with_reducible assumption | omega | (simp only [List.length_map, List.length_append, List.length_cons, List.length_nil] at *; omega) | rotate_left); intro gaps bag hgapsl hgaps hbag) | ((with_reducible apply i_ranks); (first | decide | with_reducible assumption | omega | (simp only [List.length_map, List.length_append, List.length_cons, List.length_nil] at *; omega) | rotate_left); (first | decide | with_reducible assumption | omega | (simp only [List.length_map, List.length_append, List.length_cons, List.length_nil] at *; omega) | rotate_left); (first | decide | with_reducible assumption | omega | (simp only [List.length_map, List.length_append, List.length_cons, List.length_nil] at *; omega) | rotate_left); intro ranks bag hranksl hranksb hbag) | ((with_reducible apply i_some); (first | decide | with_reducible assumption | omega | (simp only [List.length_map, List.length_append, List.length_cons, List.length_nil] at *; omega) | rotate_left); (first | decide | with_reducible assumption | omega | (simp only [List.length_map, List.length_append, List.length_cons, List.length_nil] at *; omega) | rotate_left); (first | decide | with_reducible assumption | omega | (simp only [List.length_map, List.length_append, List.length_cons, List.length_nil] at *; omega) | rotate_left); intro size bag hsize0 hsize1 hbag)) | ((with_reducible apply g_set); exact rfl; (first | (simp only [wipeD, List.set_cons_zero, List.set_cons_succ]; exact rfl) | exact rfl)) | ((with_reducible apply i_stN); (first | omega | (simp only [List.length_set]; omega))) | ((with_reducible apply i_stP); omega; (first | omega | (simp only [List.length_set]; omega))) | ((with_reducible apply i_st); first | exact ixN_0 | exact ixN_1 | exact ixN_2 | exact ixN_3 | exact ixN_pos (by omega) (by omega)) | ((with_reducible apply e_tup); exact rfl; first | decide | (simp only [List.length_cons, List.length_nil]; omega) | rotate_left) | ((with_reducible apply e_st); exact rfl; (first | (simp only [wipeD, List.set_cons_zero, List.set_cons_succ]; exact rfl) | exact rfl)) | ((with_reducible apply i_appendI); first | omega | (simp only [List.length_append, List.length_cons, List.length_nil] at *; omega) | rotate_left) | ((with_reducible apply i_append); first | decide | omega | (simp only [List.length_map, List.length_append, List.length_cons, List.length_nil] at *; omega) | rotate_left) | ((with_reducible apply s_par3); exact rfl) | ((with_reducible apply c_ik); exact rfl; (first | omega | (simp only [List.length_append, List.length_cons, List.length_nil, List.length_map] at *; omega) | rotate_left); (first | (simp only [restD, List.set_cons_zero, List.set_cons_succ, List.getElem?_cons_zero, List.getElem?_cons_succ, Option.getD_some]; exact rfl) | exact rfl)) | (with_reducible apply i_sl1) | (with_reducible apply i_slL) | (with_reducible apply i_slC) | (with_reducible apply i_slT) | (with_reducible apply e_Rg1) | (with_reducible apply e_rg1) | ((with_reducible apply e_op1); exact rfl) | ((with_reducible apply e_make); exact rfl; (first | exact rfl | decide); exact rfl) | ((with_reducible apply e_mak); exact rfl; (first | (simp only [wipeD, List.set_cons_zero, List.set_cons_succ]; exact rfl) | exact rfl)) | (with_reducible apply e_or) | (with_reducible apply e_not) | (with_reducible apply e_noP) | (with_reducible apply e_Part) | (with_reducible apply e_part) | ((with_reducible apply e_sl); exact rfl) | ((with_reducible apply s_a3); exact rfl; (first | exact ixN_0 | exact ixN_1 | exact ixN_2 | exact ixN_3 | exact ixN_pos (by omega) (by omega)); exact rfl; (first | (simp only [wipeD, List.set_cons_zero, List.set_cons_succ]; exact rfl) | exact rfl)) | (with_reducible apply e_and) | ((with_reducible apply i_catA); first | (simp only [List.length_map, List.length_append, List.length_cons, List.length_nil] at *; omega) | rotate_left) | (with_reducible apply i_reverse) | (with_reducible apply i_clear) | (with_reducible apply e_orv) | (with_reducible apply e_Rg2) | (with_reducible apply e_rg2) | ((with_reducible apply s_av); (first | exact rfl | assumption); (first | (simp only [wipeD, List.set_cons_zero, List.set_cons_succ]; exact rfl) | exact rfl)) | (with_reducible apply rpk_in) | ((with_reducible apply lnk_in); (first | omega | rotate_left); (first | omega | rotate_left)) | (with_reducible apply e_jsN) | (with_reducible apply e_Js) | ((with_reducible apply e_js); rotate_left) | ((with_reducible apply i_popI); omega; omega; omega) | ((with_reducible apply i_insert0); first | decide | omega | rotate_left) | (with_reducible apply e_eqkI) | (with_reducible apply e_eqkF) | (with_reducible apply e_eqkT) | (with_reducible apply e_eqk) | ((with_reducible apply e_bor); exact rfl) | ((with_reducible apply s_scr); exact rfl; (simp only [List.length_cons, List.length_nil]; omega); (first | exact rfl | (simp only [freeE, Bool.and_eq_true, Bool.and_true]; (repeat' constructor) <;> first | rfl | assumption)); decide; (first | (simp only [killE]; exact rfl) | exact rfl); (first | (simp only [boxE, boxS, List.set_cons_zero, List.set_cons_succ]; exact rfl) | exact rfl); rotate_left) | ((with_reducible apply b_nx); exact rfl) | ((with_reducible apply b_rt); exact rfl; exact rfl) | ((with_reducible apply e_callX); exact rfl; (first | exact rfl | decide); exact rfl) | ((with_reducible apply e_xt); exact rfl; (first | (simp only [wipeD, List.set_cons_zero, List.set_cons_succ]; exact rfl) | exact rfl)) | ((with_reducible apply s_raise); exact rfl; exact rfl; (simp only [List.length_cons, List.length_nil]; omega); exact rfl; exact rfl) | ((with_reducible apply d_x); exact rfl) | ((with_reducible apply x_T); (first | exact rfl | decide +kernel); exact rfl; intro xa xG hxG; simp only [List.set_cons_zero, List.set_cons_succ] at hxG; subst hxG) | ((with_reducible apply x_F); (first | exact rfl | decide +kernel)) | ((with_reducible apply y_T); (first | exact rfl | decide +kernel); intro xa) | ((with_reducible apply y_F); (first | exact rfl | decide +kernel)) | ((with_reducible apply u_nk); exact rfl; (first | (simp only [wipeD, List.set_cons_zero, List.set_cons_succ]; exact rfl) | exact rfl)) | ((with_reducible apply w_down); first | omega | rotate_left) | ((with_reducible apply e_lenset); exact rfl; first | exact Nat.lt_of_le_of_lt (difN_le _) (by omega) | omega | with_reducible assumption | (simp only [List.length_map, List.length_append, List.length_cons, List.length_nil] at *; omega) | rotate_left) | ((with_reducible apply s_npk); (first | exact rfl | (simp only [boxE, boxS])); (first | (simp only [killE]; exact rfl) | exact rfl); (first | (simp only [List.set_cons_zero, List.set_cons_succ]; exact rfl) | exact rfl); first | decide | omega | (simp only [List.length_map, List.length_append, List.length_cons, List.length_nil] at *; omega) | rotate_left) | ((with_reducible apply s_npkV); (first | exact rfl | (simp only [boxE, boxS])); (first | (simp only [killE]; exact rfl) | exact rfl); (first | (simp only [List.set_cons_zero, List.set_cons_succ]; exact rfl) | exact rfl)) | (with_reducible apply s_npv) | ((with_reducible apply s_npw); (first | exact rfl | decide | (refine decide_eq_false ?_; omega) | rotate_left); exact rfl) | (with_reducible apply s_npn) | ((with_reducible apply s_kill); exact rfl) | ((with_reducible apply s_klk); exact rfl) | ((with_reducible apply s_npe); exact rfl) | ((with_reducible apply s_rnpF); exact rfl) | ((with_reducible apply s_rnpP); exact rfl; exact rfl; (first | (simp only [wipeD, List.set_cons_zero, List.set_cons_succ]; exact rfl) | exact rfl)) | ((with_reducible apply gkP); first | (with_reducible refine e_dif (fun hcond => ?_) (fun hcond => ?_)) | (with_reducible refine e_nif (fun hcond => ?_) (fun hcond => ?_)) | (with_reducible refine e_ite (fun hcond => ?_) (fun hcond => ?_)))))
local macro_rules | `(tactic| lcg_src) => `(tactic| (rw [endsD_mk]; simp only [startD, env0, sl0, List.length_cons, List.length_nil, Nat.reduceAdd, Nat.reduceSub, List.replicate, List.cons_append, List.nil_append]))
def slaw_ended : DSp := fun ds Q _ => ∃ (n : Nat) (t : List Int), ds = [iL t] ∧ Out n t ∧ n ≤ 1000 ∧ Q false (.tup ((invO t).map D.int)) []
theorem i_ended {n : Nat} {t : List Int} {Q : Bool → D → List D → Prop} {E : EdT} (h1 : Out n t) (h2 : n ≤ 1000) (h : Q false (.tup ((invO t).map D.int)) []) : slaw_ended [iL t] Q E := ⟨n, t, rfl, h1, h2, h⟩
/-- on the endless line a copy passes those that begin farther on -/
def passE (t : List Int) (g : Nat) : Bool := decide (ig t (g : Int) ≤ ig t (nxP t.length g : Nat) + shP t.length g)
theorem endAt_next {t : List Int} {g : Nat} (h2 : 2 ≤ t.length) (hg : g < t.length) : endAt t ((g : Int) + 1) = ig t (nxP t.length g : Nat) + shP t.length g := by
  unfold endAt nxP shP
  by_cases h : g + 1 < t.length
  · rw [if_pos h, if_pos h, Int.emod_eq_of_lt (by omega) (by omega), Int.ediv_eq_zero_of_lt (by omega) (by omega)]
    have : (g : Int) + 1 = ((g + 1 : Nat) : Int) := by omega
    rw [this]; omega
  · have e : (g : Int) + 1 = 1 * t.length := by omega
    rw [if_neg h, if_neg h, e, Int.mul_emod_left, Int.mul_ediv_cancel _ (by omega), Int.one_mul]
    rfl
theorem nxP_mod {n g : Nat} (hg : g < n) : ((g : Int) + 1) % n = (nxP n g : Nat) := by
  unfold nxP
  by_cases h : g + 1 < n
  · rw [if_pos h, Int.emod_eq_of_lt (by omega) (by omega)]; omega
  · rw [if_neg h, show (g : Int) + 1 = 1 * n by omega, Int.mul_emod_left]; rfl
/-- the line at a, its list at q -/
def LineAt (C : Addr) (H : Hp) (a dx q : Addr) (t : List Int) : Prop := H a = some (.ins C dx [("there", .ref q)]) ∧ H q = some (.lst (t.map V.int)) ∧ a ≠ q
theorem LineAt.put {C : Addr} {H : Hp} {a dx q : Addr} {t t' : List Int} (L : LineAt C H a dx q t) : LineAt C (upd H q (.lst (t'.map V.int))) a dx q t' := ⟨by rw [upd_ne L.2.2]; exact L.1, upd_same, L.2.2⟩
/-- the ranks of those who stand there -/
def moveR (r t : List Int) : List Int := t.map (rkP r)
theorem moveR_len (r t : List Int) : (moveR r t).length = t.length := List.length_map ..
theorem ig_moveR {r t : List Int} {i : Nat} (h : i < t.length) : ig (moveR r t) (i : Int) = rkP r (ig t (i : Int)) := by
  rw [ig_get (l := moveR r t) (by rw [moveR_len]; exact h), ig_get h]
  unfold moveR
  rw [List.getElem_map]
theorem rkP_sh {r : List Int} {n g : Nat} (h : r.length = n) (x : Int) : rkP r (x + shP n g) = rkP r x ∧ rkP r (x - shP n g) = rkP r x := by
  unfold rkP
  rw [h, (shP_mod n g x).1, (shP_mod n g x).2]
  exact ⟨rfl, rfl⟩
theorem runT_len (r : List Int) : ∀ (gs t : List Int), (runT r gs t).length = t.length
  | [], _ => rfl
  | g :: gs, t => by rw [runT, runT_len r gs, callT_len]
def slaw_after : DSp := fun ds Q _ => ∃ (r t : List Int), ds = [iL r, iL t] ∧ 0 < r.length ∧ t.length ≤ 1000 ∧ Q true (iL (moveR r t)) []
theorem i_after {r t : List Int} {Q : Bool → D → List D → Prop} {E : EdT} (h1 : 0 < r.length) (h2 : t.length ≤ 1000) (h : Q true (iL (moveR r t)) []) : slaw_after [iL r, iL t] Q E := ⟨r, t, rfl, h1, h2, h⟩
def slaw_called : DSp := fun ds Q _ => ∃ (r t : List Int) (g : Nat), ds = [iL r, iL t, .int g] ∧ 2 ≤ r.length ∧ r.length ≤ 100 ∧ t.length = r.length ∧ g < r.length ∧ Q false (.bl (passT r t g)) [iL (callT r t g)]
theorem i_called {r t : List Int} {g : Nat} {Q : Bool → D → List D → Prop} {E : EdT} (h1 : 2 ≤ r.length) (h2 : r.length ≤ 100) (h3 : t.length = r.length) (h4 : g < r.length) (h : Q false (.bl (passT r t g)) [iL (callT r t g)]) : slaw_called [iL r, iL t, .int g] Q E := ⟨r, t, g, rfl, h1, h2, h3, h4, h⟩
def slaw_standing : DSp := fun ds Q _ => ∃ n : Nat, ds = [.int n] ∧ n ≤ 1000 ∧ Q true (iL (iota n)) []
theorem i_standing {n : Nat} {Q : Bool → D → List D → Prop} {E : EdT} (h1 : n ≤ 1000) (h : Q true (iL (iota n)) []) : slaw_standing [.int n] Q E := ⟨n, rfl, h1, h⟩
def slaw_run : DSp := fun ds Q _ => ∃ (n : Nat) (r gs : List Int), ds = [iL r, iL gs] ∧ r.length = n ∧ 2 ≤ n ∧ n ≤ 100 ∧ Sch n gs ∧ gs.length ≤ 1000 ∧ Q false (.tup [iL (runT r gs (iota n)), iL (passed r gs (iota n) 0)]) []
theorem sum_one (i : Nat) (a : Int) : ∀ n : Nat, ((List.range n).map fun k => if k = i then a else 0).sum = if i < n then a else 0
  | 0 => rfl
  | n + 1 => by
    rw [List.range_succ, List.map_append, List.sum_append, sum_one i a n, List.map_singleton, List.sum_singleton]
    by_cases h : n = i
    · subst h
      rw [if_neg (by omega), if_pos rfl, if_pos (by omega)]; omega
    · rw [if_neg h]
      by_cases h2 : i < n
      · rw [if_pos h2, if_pos (by omega)]; omega
      · rw [if_neg h2, if_neg (by omega)]; rfl
theorem sum_addK (f g : Nat → Int) : ∀ l : List Nat, (l.map fun k => f k + g k).sum = (l.map f).sum + (l.map g).sum
  | [] => rfl
  | x :: l => by
    rw [List.map_cons, List.sum_cons, sum_addK f g l, List.map_cons, List.sum_cons, List.map_cons, List.sum_cons]; omega
theorem sum_two {n i j : Nat} {F : Nat → Int} (hi : i < n) (hj : j < n) (hij : i ≠ j) (h0 : ∀ k, k < n → k ≠ i → k ≠ j → F k = 0) : ((List.range n).map F).sum = F i + F j := by
  have e : (List.range n).map F = (List.range n).map fun k => (if k = i then F i else 0) + (if k = j then F j else 0) := List.map_congr_left fun k hk => by
    have hk := List.mem_range.mp hk
    by_cases h1 : k = i
    · subst h1; rw [if_pos rfl, if_neg hij]; omega
    · rw [if_neg h1]
      by_cases h2 : k = j
      · subst h2; rw [if_pos rfl]; omega
      · rw [if_neg h2, h0 k hk h1 h2]; rfl
  rw [e, sum_addK, sum_one, sum_one, if_pos hi, if_pos hj]
/-- what stands at a place adds to the crossings of a gap -/
def crP (n : Nat) (r : List Int) (b g : Int) (p : Nat) (x : Int) : Int := if b ≤ rkP r x then (g - x) / n - (g - p) / n else 0
theorem map_places {n : Nat} {t : List Int} (hl : t.length = n) (h : Int → Int) : t.map h = (List.range n).map fun p => h (ig t ((p : Nat) : Int)) := by
  refine List.ext_getElem (by rw [List.length_map, List.length_map, List.length_range, hl]) fun i h1 h2 => ?_
  rw [List.getElem_map, List.getElem_map, List.getElem_range, ig_get (by rw [List.length_map] at h1; exact h1)]
theorem crS_places {n : Nat} {r t : List Int} (hr : r.length = n) (O : Out n t) (h0 : 0 < n) (b g : Int) : crS n (invO t) (stF r b) g = ((List.range n).map fun p => crP n r b g p (ig t (p : Int))).sum := by
  have hl := O.len
  unfold crS stF
  rw [sum_filter, hr]
  have hp : ((iota n).map fun x => if decide (b ≤ ig r x) = true then crX n (ig (invO t) x) x g else 0).sum = ((t.map fun x => x % (n : Int)).map fun x => if decide (b ≤ ig r x) = true then crX n (ig (invO t) x) x g else 0).sum := (perm_sum (O.perm.map _)).symm
  rw [hp, List.map_map]
  rw [map_places hl]
  congr 1
  refine List.map_congr_left fun p hp => ?_
  have hp := List.mem_range.mp hp
  show (if decide (b ≤ ig r (ig t (p : Int) % n)) = true then crX n (ig (invO t) (ig t (p : Int) % n)) (ig t (p : Int) % n) g else 0) = crP n r b g p (ig t (p : Int))
  unfold crP rkP
  rw [hr]
  by_cases hc : b ≤ ig r (ig t (p : Int) % n)
  · rw [if_pos (decide_eq_true hc), if_pos hc, O.inv_at hp]
    unfold crX
    have e1 : (g - ig t (p : Int)) = (g - ig t (p : Int) % n) + (-(ig t (p : Int) / n)) * n := by
      have := Int.emod_add_mul_ediv (ig t (p : Int)) n
      rw [Int.mul_comm] at this
      rw [Int.neg_mul]; omega
    have e2 : (g - ((p : Int) - ig t (p : Int) / n * n)) = (g - p) + (ig t (p : Int) / n) * n := by omega
    rw [e1, e2, Int.add_mul_ediv_right _ _ (by omega), Int.add_mul_ediv_right _ _ (by omega)]
    omega
  · rw [if_neg (by simpa using hc), if_neg hc]
/-! levels: what a schedule does to the counts of strong persons -/
/-- one call of gap k -/
def stH (n : Nat) (k : Int) (H : Int → Int) : Int → Int := fun g => if (g - k) % (n : Int) = 0 then min (H (g - 1)) (H (g + 1) + 1) else H g
def ruH (n : Nat) : List Int → (Int → Int) → (Int → Int)
  | [], H => H
  | k :: gs, H => ruH n gs (stH n k H)
/-- steps of 0 or 1 down -/
def StB (H : Int → Int) : Prop := ∀ g, H g ≤ H (g - 1) ∧ H (g - 1) ≤ H g + 1
/-- c down with each lap -/
def LpB (n : Nat) (c : Int) (H : Int → Int) : Prop := ∀ g, H (g + n) = H g - c
theorem sub1_mod {n : Nat} (h2 : 2 ≤ n) {x : Int} (h : x % (n : Int) = 0) : ¬ (x - 1) % (n : Int) = 0 := fun z => by
  have e : x % (n : Int) = (x - 1) % (n : Int) := by rw [h, z]
  have := emod_sub_zero e
  rw [show x - (x - 1) = 1 by omega, Int.emod_eq_of_lt (by omega) (by omega)] at this
  omega
theorem ruH_app (n : Nat) : ∀ (g1 g2 : List Int) (H : Int → Int), ruH n (g1 ++ g2) H = ruH n g2 (ruH n g1 H)
  | [], _, _ => rfl
  | _ :: g1, g2, _ => ruH_app n g1 g2 _
theorem StB.st {n : Nat} (h2 : 2 ≤ n) {H : Int → Int} (S : StB H) (k : Int) : StB (stH n k H) := fun g => by
  have a := S g
  have b := S (g - 1)
  have c := S (g + 1)
  rw [show g + 1 - 1 = g by omega] at c
  unfold stH
  by_cases h : (g - k) % (n : Int) = 0
  · have h1 : ¬ (g - 1 - k) % (n : Int) = 0 := by rw [show g - 1 - k = g - k - 1 by omega]; exact sub1_mod h2 h
    rw [if_pos h, if_neg h1]; omega
  · rw [if_neg h]
    by_cases h1 : (g - 1 - k) % (n : Int) = 0
    · rw [if_pos h1, show g - 1 + 1 = g by omega]; omega
    · rw [if_neg h1]; exact a
theorem StB.ru {n : Nat} (h2 : 2 ≤ n) : ∀ (gs : List Int) {H : Int → Int}, StB H → StB (ruH n gs H)
  | [], _, S => S
  | k :: gs, _, S => StB.ru h2 gs (S.st h2 k)
theorem LpB.st {n : Nat} {c : Int} {H : Int → Int} (L : LpB n c H) (k : Int) : LpB n c (stH n k H) := fun g => by
  have a := L (g - 1)
  have b := L (g + 1)
  have d := L g
  have e : (g + n - k) % (n : Int) = (g - k) % n := by
    rw [show g + n - k = g - k + n by omega, Int.add_emod_right]
  unfold stH
  rw [e, show g + (n : Int) - 1 = g - 1 + n by omega, show g + (n : Int) + 1 = g + 1 + n by omega, a, b, d]
  split <;> omega
theorem LpB.ru {n : Nat} {c : Int} : ∀ (gs : List Int) {H : Int → Int}, LpB n c H → LpB n c (ruH n gs H)
  | [], _, L => L
  | k :: gs, _, L => LpB.ru gs (L.st k)
theorem LpB.laps {n : Nat} {c : Int} {H : Int → Int} (L : LpB n c H) (g : Int) : ∀ k : Int, H (g + k * n) = H g - k * c := by
  have pos : ∀ (k : Nat) (g : Int), H (g + (k : Int) * n) = H g - k * c := fun k => by
    induction k with
    | zero => intro g; simp
    | succ k ih =>
      intro g
      have := L (g + (k : Int) * n)
      rw [show g + ((k + 1 : Nat) : Int) * n = g + (k : Int) * n + n by rw [show ((k + 1 : Nat) : Int) = k + 1 by omega, Int.add_mul]; omega, this, ih]
      rw [show ((k + 1 : Nat) : Int) = k + 1 by omega, Int.add_mul]; omega
  intro k
  rcases Int.le_total 0 k with h | h
  · obtain ⟨m, rfl⟩ := Int.eq_ofNat_of_zero_le h
    exact pos m g
  · obtain ⟨m, hm⟩ := Int.eq_ofNat_of_zero_le (show 0 ≤ -k by omega)
    have := pos m (g + k * n)
    rw [← hm, show g + k * n + -k * n = g by rw [Int.neg_mul]; omega, Int.neg_mul] at this
    omega
theorem stH_add (n : Nat) (k a : Int) (H : Int → Int) : stH n k (fun g => a + H g) = fun g => a + stH n k H g := by
  funext g
  unfold stH
  dsimp only
  split <;> omega
theorem ruH_add (n : Nat) : ∀ (gs : List Int) (a : Int) (H : Int → Int), ruH n gs (fun g => a + H g) = fun g => a + ruH n gs H g
  | [], _, _ => rfl
  | k :: gs, a, H => by rw [ruH, stH_add, ruH_add n gs]; rfl
theorem stH_mono {n : Nat} {k a : Int} {H J : Int → Int} (h : ∀ g, H g ≤ J g + a) (g : Int) : stH n k H g ≤ stH n k J g + a := by
  have x := h (g - 1)
  have y := h (g + 1)
  have z := h g
  unfold stH
  split <;> omega
theorem ruH_mono {n : Nat} {a : Int} : ∀ (gs : List Int) {H J : Int → Int}, (∀ g, H g ≤ J g + a) → ∀ g, ruH n gs H g ≤ ruH n gs J g + a
  | [], _, _, h => h
  | k :: gs, _, _, h => ruH_mono gs (stH_mono h)
/-- the least of some -/
def IsMn {ι : Type} (F : ι → Int) (a : Int) : Prop := (∀ i, a ≤ F i) ∧ ∃ i, a = F i
theorem IsMn.uniq {ι : Type} {F : ι → Int} {a b : Int} (h1 : IsMn F a) (h2 : IsMn F b) : a = b := by
  obtain ⟨l1, i, e1⟩ := h1
  obtain ⟨l2, j, e2⟩ := h2
  have := l1 j
  have := l2 i
  omega
theorem IsMn.st {ι : Type} {F : ι → Int → Int} {G : Int → Int} (h : ∀ g, IsMn (fun i => F i g) (G g)) (n : Nat) (k : Int) : ∀ g, IsMn (fun i => stH n k (F i) g) (stH n k G g) := fun g => by
  unfold stH
  by_cases hc : (g - k) % (n : Int) = 0
  · simp only [if_pos hc]
    obtain ⟨l1, i1, e1⟩ := h (g - 1)
    obtain ⟨l2, i2, e2⟩ := h (g + 1)
    refine ⟨fun i => ?_, ?_⟩
    · have := l1 i
      have := l2 i
      dsimp only at *; omega
    · by_cases hm : G (g - 1) ≤ G (g + 1) + 1
      · refine ⟨i1, ?_⟩
        have := l2 i1
        dsimp only at *; omega
      · refine ⟨i2, ?_⟩
        have := l1 i2
        dsimp only at *; omega
  · simp only [if_neg hc]
    exact h g
theorem IsMn.ru {ι : Type} (n : Nat) : ∀ (gs : List Int) {F : ι → Int → Int} {G : Int → Int}, (∀ g, IsMn (fun i => F i g) (G g)) → ∀ g, IsMn (fun i => ruH n gs (F i) g) (ruH n gs G g)
  | [], _, _, h => h
  | k :: gs, _, _, h => IsMn.ru n gs (IsMn.st h n k)
/-! ### a ring's levels -/
/-- less the net number of strong persons up to a gap -/
def hT (n : Nat) (r : List Int) (b : Int) (t : List Int) (g : Int) : Int := ((List.range n).map fun (p : Nat) => if b ≤ rkP r (ig t (p : Int)) then -((g - p) / (n : Int) + 1 + ig t (p : Int) / (n : Int)) else 0).sum
/-- how many are strong -/
def cnS (r : List Int) (b : Int) : Int := ((stF r b).length : Int)
theorem perm_places {n : Nat} {t : List Int} (O : Out n t) (f : Int → Int) : ((List.range n).map fun (p : Nat) => f (ig t (p : Int) % n)).sum = ((iota n).map f).sum := by
  have h := perm_sum (O.perm.map f)
  rw [List.map_map, map_places O.len] at h
  exact h
theorem len_sum (q : Int → Bool) : ∀ l : List Int, ((l.filter q).length : Int) = (l.map fun x => if q x = true then (1 : Int) else 0).sum
  | [] => rfl
  | x :: l => by
    rw [List.filter_cons, List.map_cons, List.sum_cons, ← len_sum q l]
    split
    · rw [List.length_cons]; omega
    · omega
theorem cnS_places {n : Nat} {r t : List Int} (hr : r.length = n) (O : Out n t) (b : Int) : ((List.range n).map fun (p : Nat) => if b ≤ rkP r (ig t (p : Int)) then (1 : Int) else 0).sum = cnS r b := by
  have h := perm_places O fun x => if b ≤ ig r x then (1 : Int) else 0
  unfold cnS stF
  rw [len_sum, hr]
  have e : ((iota n).map fun x => if decide (b ≤ ig r x) = true then (1 : Int) else 0) = (iota n).map fun x => if b ≤ ig r x then (1 : Int) else 0 := List.map_congr_left fun x _ => by simp only [decide_eq_true_eq]
  rw [e, ← h]
  unfold rkP
  rw [hr]
theorem hT_lap {n : Nat} {r t : List Int} (hr : r.length = n) (O : Out n t) (h0 : 0 < n) (b : Int) : LpB n (cnS r b) (hT n r b t) := fun g => by
  rw [← cnS_places hr O b]
  unfold hT
  rw [← sum_map_sub]
  refine DL.sum_congr fun p _ => ?_
  split
  · rw [show g + n - (p : Int) = g - p + 1 * n by omega, Int.add_mul_ediv_right _ _ (by omega)]; omega
  · omega
theorem rkP_lapN {r : List Int} {n : Nat} (hr : r.length = n) (x k : Int) : rkP r (x + k * n) = rkP r x := by
  unfold rkP
  rw [hr, Int.add_mul_emod_self_right]
/-- one gap further -/
theorem hT_step {n : Nat} {r t : List Int} (hr : r.length = n) (hl : t.length = n) (h0 : 0 < n) (b g : Int) : hT n r b t (g - 1) = hT n r b t g + boI (decide (b ≤ rkP r (endAt t g))) := by
  have r0 := Int.emod_nonneg g (show (n : Int) ≠ 0 by omega)
  have r1 := Int.emod_lt_of_pos g (show (0 : Int) < n by omega)
  obtain ⟨j, hj, ej, eg⟩ := unroll n h0 g
  have er : rkP r (endAt t g) = rkP r (ig t (j : Int)) := by
    unfold endAt
    rw [hl, ej, rkP_lapN hr]
  rw [er]
  unfold hT
  refine DL.sum_one (n := n) (j := j) hj (fun i hi hij => ?_) ?_
  · split
    · rw [show g - 1 - (i : Int) = g - i - 1 by omega, ediv_pred h0]
      intro hz
      have := sub_emod_zero hz
      rw [ej, Int.emod_eq_of_lt (by omega) (by omega)] at this
      omega
    · rfl
  · unfold boI
    split
    · rename_i h
      rw [if_pos (decide_eq_true h), show g - 1 - (j : Int) = g - j - 1 by omega, ediv_pred0 h0 (emod_sub_zero (by rw [ej, Int.emod_eq_of_lt (by omega) (by omega)]))]
      omega
    · rename_i h
      rw [if_neg (by simpa using h)]; omega
theorem hT_stB {n : Nat} {r t : List Int} (hr : r.length = n) (hl : t.length = n) (h0 : 0 < n) (b : Int) : StB (hT n r b t) := fun g => by
  have := hT_step hr hl h0 b g
  unfold boI at this
  split at this <;> omega
theorem sub_sum (f h : Nat → Int) (l : List Nat) : (l.map fun p => f p - h p).sum = (l.map f).sum - (l.map h).sum := sum_map_sub l f h
theorem sh_div {n k : Nat} (h0 : 0 < n) (x : Int) : (x + shP n k) / n = x / n + shP n k / n ∧ (x - shP n k) / n = x / n - shP n k / n := by
  unfold shP
  split
  · simp
  · rw [Int.ediv_self (by omega)]
    refine ⟨?_, ?_⟩
    · have := Int.add_mul_ediv_right x 1 (show (n : Int) ≠ 0 by omega)
      rw [Int.one_mul] at this; exact this
    · have := Int.add_mul_ediv_right x (-1) (show (n : Int) ≠ 0 by omega)
      rw [Int.neg_mul, Int.one_mul] at this
      rw [Int.sub_eq_add_neg]; omega
theorem nx_sh {n k : Nat} (hk : k < n) : ((nxP n k : Nat) : Int) = k + 1 - shP n k := by
  unfold nxP shP
  split <;> omega
/-- who stands at a gap that is called, and behind it -/
theorem at_gap {n : Nat} {t : List Int} (hl : t.length = n) (h2 : 2 ≤ n) {k : Nat} (hk : k < n) {g : Int} (h : (g - k) % (n : Int) = 0) : ∃ j : Int, g = k + j * n ∧ endAt t g = ig t (k : Int) + j * n ∧ endAt t (g + 1) = ig t (nxP n k : Nat) + shP n k + j * n := by
  refine ⟨(g - k) / n, ?_, ?_, ?_⟩
  · have := Int.emod_add_mul_ediv (g - k) n
    rw [Int.mul_comm] at this; omega
  all_goals
    have e : g = k + (g - k) / n * n := by
      have := Int.emod_add_mul_ediv (g - k) n
      rw [Int.mul_comm] at this; omega
    generalize (g - k) / (n : Int) = j at e
    subst e
  · have := endAt_lap t k j (by omega)
    rw [hl] at this
    rw [this, endAt_nat (by omega)]
  · have := endAt_lap t ((k : Int) + 1) j (by omega)
    rw [hl] at this
    rw [show (k : Int) + j * n + 1 = k + 1 + j * n by omega, this]
    have := endAt_next (t := t) (g := k) (by omega) (by omega)
    rw [this, hl]
theorem hT_swap {n : Nat} {r t : List Int} (hr : r.length = n) (hl : t.length = n) (h2 : 2 ≤ n) (b g : Int) {k : Nat} (hk : k < n) : hT n r b (swapT t k) g = hT n r b t g + if (g - k) % (n : Int) = 0 then boI (decide (b ≤ rkP r (ig t (k : Int)))) - boI (decide (b ≤ rkP r (ig t (nxP n k : Nat)))) else 0 := by
  have hx := nxP_lt (n := n) (g := k) (by omega)
  have hne := nxP_ne h2 hk
  have h0 : 0 < n := by omega
  have hd : ((List.range n).map fun (p : Nat) => (if b ≤ rkP r (ig (swapT t k) (p : Int)) then -((g - p) / (n : Int) + 1 + ig (swapT t k) (p : Int) / (n : Int)) else 0) - (if b ≤ rkP r (ig t (p : Int)) then -((g - p) / (n : Int) + 1 + ig t (p : Int) / (n : Int)) else 0)).sum = _ := sum_two hk hx (Ne.symm hne) fun p _ h1 h3 => by
    have e := swapT_at hl hk p
    rw [if_neg (fun z => h3 z.symm), if_neg (fun z => h1 z.symm)] at e
    rw [e]; omega
  rw [sub_sum] at hd
  have e1 : ig (swapT t k) (k : Int) = ig t (nxP n k : Nat) + shP n k := by rw [swapT_at hl hk, if_neg hne, if_pos rfl]
  have e2 : ig (swapT t k) (nxP n k : Nat) = ig t (k : Int) - shP n k := by rw [swapT_at hl hk, if_pos rfl]
  rw [e1, e2, (rkP_sh hr _).1, (rkP_sh hr _).2, (sh_div h0 _).1, (sh_div h0 _).2] at hd
  have q1 : (g - ((nxP n k : Nat) : Int)) / (n : Int) = (g - k - 1) / n + shP n k / n := by
    rw [nx_sh hk, show g - ((k : Int) + 1 - shP n k) = (g - k - 1) + shP n k by omega]; exact (sh_div h0 _).1
  rw [q1] at hd
  have q2 : (g - k - 1) / (n : Int) = if (g - k) % (n : Int) = 0 then (g - k) / (n : Int) - 1 else (g - k) / (n : Int) := by
    split
    · rename_i h; exact ediv_pred0 h0 h
    · rename_i h; exact ediv_pred h0 h
  rw [q2] at hd
  unfold hT
  generalize ((List.range n).map fun (p : Nat) => if b ≤ rkP r (ig (swapT t k) (p : Int)) then -((g - p) / (n : Int) + 1 + ig (swapT t k) (p : Int) / (n : Int)) else 0).sum = S1 at hd ⊢
  generalize ((List.range n).map fun (p : Nat) => if b ≤ rkP r (ig t (p : Int)) then -((g - p) / (n : Int) + 1 + ig t (p : Int) / (n : Int)) else 0).sum = S0 at hd ⊢
  unfold boI
  simp only [decide_eq_true_eq]
  by_cases hg : (g - k) % (n : Int) = 0
  · simp only [if_pos hg] at hd ⊢
    by_cases c1 : b ≤ rkP r (ig t (nxP n k : Nat)) <;> by_cases c2 : b ≤ rkP r (ig t (k : Int)) <;> simp only [c1, c2, if_true, if_false] at hd ⊢ <;> omega
  · simp only [if_neg hg] at hd ⊢
    by_cases c1 : b ≤ rkP r (ig t (nxP n k : Nat)) <;> by_cases c2 : b ≤ rkP r (ig t (k : Int)) <;> simp only [c1, c2, if_true, if_false] at hd ⊢ <;> omega
/-- a call -/
theorem hT_call {n : Nat} {r t : List Int} (hr : r.length = n) (hl : t.length = n) (h2 : 2 ≤ n) (b : Int) {k : Nat} (hk : k < n) : hT n r b (callT r t k) = stH n k (hT n r b t) := by
  funext g
  unfold stH
  have hpass : (passT r t k = true) = (rkP r (ig t (nxP n k : Nat)) < rkP r (ig t (k : Int))) := by
    unfold passT
    rw [hl, (rkP_sh hr _).1, decide_eq_true_eq]
  have hsw := hT_swap hr hl h2 b g hk
  by_cases hg : (g - k) % (n : Int) = 0
  · rw [if_pos hg] at hsw ⊢
    obtain ⟨j, ej, e1, e2⟩ := at_gap hl h2 hk hg
    have s1 := hT_step hr hl (by omega) b g
    have s2 := hT_step hr hl (by omega) b (g + 1)
    rw [e1, rkP_lapN hr] at s1
    rw [e2, rkP_lapN hr, (rkP_sh hr _).1, show g + 1 - 1 = g by omega] at s2
    unfold callT boI at *
    simp only [decide_eq_true_eq] at *
    by_cases hp : rkP r (ig t (nxP n k : Nat)) < rkP r (ig t (k : Int))
    · rw [if_pos (hpass.mpr hp), hsw]
      by_cases c1 : b ≤ rkP r (ig t (nxP n k : Nat)) <;> by_cases c2 : b ≤ rkP r (ig t (k : Int)) <;> simp only [c1, c2, if_true, if_false] at s1 s2 ⊢ <;> omega
    · rw [if_neg (fun z => hp (hpass.mp z))]
      by_cases c1 : b ≤ rkP r (ig t (nxP n k : Nat)) <;> by_cases c2 : b ≤ rkP r (ig t (k : Int)) <;> simp only [c1, c2, if_true, if_false] at s1 s2 ⊢ <;> omega
  · rw [if_neg hg] at hsw ⊢
    unfold callT
    split
    · omega
    · rfl
theorem hT_run {n : Nat} {r : List Int} (hr : r.length = n) (h2 : 2 ≤ n) (b : Int) : ∀ (gs t : List Int), t.length = n → (∀ x ∈ gs, 0 ≤ x ∧ x < n) → hT n r b (runT r gs t) = ruH n gs (hT n r b t)
  | [], _, _, _ => rfl
  | k :: gs, t, hl, h => by
    obtain ⟨k0, k1⟩ := h k (List.mem_cons_self ..)
    obtain ⟨m, rfl⟩ := Int.eq_ofNat_of_zero_le k0
    have ih := hT_run hr h2 b gs (callT r t m) (by rw [callT_len, hl]) fun y hy => h y (List.mem_cons_of_mem _ hy)
    show hT n r b (runT r gs (callT r t ((m : Nat) : Int).toNat)) = ruH n gs (stH n m (hT n r b t))
    rw [Int.toNat_natCast, ih, hT_call hr hl h2 b (by omega)]
/-- crossings by levels -/
theorem crS_hT {n : Nat} {r t : List Int} (hr : r.length = n) (O : Out n t) (h0 : 0 < n) (b g : Int) : crS n (invO t) (stF r b) g = hT n r b t g - hT n r b (iota n) g := by
  rw [crS_places hr O h0]
  have e : hT n r b (iota n) g = ((List.range n).map fun (p : Nat) => if b ≤ rkP r (ig t (p : Int)) then -((g - ig t (p : Int)) / (n : Int) + 1 + ig t (p : Int) / n) else 0).sum := by
    have h1 := perm_places O fun x => if b ≤ ig r x then -((g - x) / (n : Int) + 1) else 0
    have h2 : hT n r b (iota n) g = ((iota n).map fun x => if b ≤ ig r x then -((g - x) / (n : Int) + 1) else 0).sum := by
      rw [sum_iota]
      unfold hT
      refine DL.sum_congr fun p hp => ?_
      rw [ig_iota hp, Int.ediv_eq_zero_of_lt (a := (p : Int)) (by omega) (by omega)]
      unfold rkP
      rw [hr, Int.emod_eq_of_lt (by omega) (by omega), Int.add_zero]
    rw [h2, ← h1]
    refine DL.sum_congr fun p hp => ?_
    unfold rkP
    rw [hr]
    have e1 : (g - ig t (p : Int)) = (g - ig t (p : Int) % n) + (-(ig t (p : Int) / n)) * n := by
      have := Int.emod_add_mul_ediv (ig t (p : Int)) n
      rw [Int.mul_comm] at this
      rw [Int.neg_mul]; omega
    rw [e1, Int.add_mul_ediv_right _ _ (by omega)]
    split <;> omega
  rw [e]
  unfold hT
  rw [← sub_sum]
  refine DL.sum_congr fun p _ => ?_
  unfold crP
  split <;> omega
/-! the least prices of threads -/
/-! ### as dicts -/
structure Dk (l : List (Int × Int)) (P : Int → Option Int) : Prop where
  nd : (l.map (·.1)).Nodup
  at_ : ∀ g, lookI l g = P g
theorem putI_new {l : List (Int × Int)} {k v : Int} (h : ¬ k ∈ l.map (·.1)) : putI l k v = l ++ [(k, v)] := by
  unfold putI
  rw [if_neg]
  intro z
  obtain ⟨p, hp, e⟩ := List.any_eq_true.mp z
  exact h (List.mem_map.mpr ⟨p, hp, of_decide_eq_true e⟩)
theorem putI_keys {l : List (Int × Int)} {k v : Int} : (putI l k v).map (·.1) = if k ∈ l.map (·.1) then l.map (·.1) else l.map (·.1) ++ [k] := by
  split
  · rename_i h
    unfold putI
    rw [if_pos]
    · rw [List.map_map]
      refine List.map_congr_left fun p _ => ?_
      show (if p.1 = k then (p.1, v) else p).1 = p.1
      split <;> rfl
    · obtain ⟨p, hp, e⟩ := List.mem_map.mp h
      exact List.any_eq_true.mpr ⟨p, hp, decide_eq_true e⟩
  · rename_i h
    rw [putI_new h, List.map_append]; rfl
theorem Dk.put {l : List (Int × Int)} {P R : Int → Option Int} (D : Dk l P) {k v : Int} (h : ∀ g, R g = if g = k then some v else P g) : Dk (putI l k v) R := by
  refine ⟨?_, fun g => by rw [lookI_put, h, D.at_]⟩
  rw [putI_keys]
  split
  · exact D.nd
  · rename_i hn
    exact List.nodup_append.mpr ⟨D.nd, by simp, fun a ha b hb e => by
      rw [List.mem_singleton] at hb
      rw [hb] at e
      exact hn (e ▸ ha)⟩
theorem Dk.mem {l : List (Int × Int)} {P : Int → Option Int} (D : Dk l P) {g p : Int} : (g, p) ∈ l ↔ P g = some p := by
  rw [← D.at_]
  have nd := D.nd
  clear D
  induction l with
  | nil => simp [lookI]
  | cons q l ih =>
    rw [List.map_cons, List.nodup_cons] at nd
    have ih := ih nd.2
    unfold lookI at *
    rw [List.mem_cons, List.find?_cons]
    by_cases e : q.1 = g
    · rw [decide_eq_true e]
      have hn : (g, p) ∉ l := fun z => nd.1 (by rw [e]; exact List.mem_map.mpr ⟨_, z, rfl⟩)
      constructor
      · rintro (h | h)
        · rw [← h]; rfl
        · exact absurd h hn
      · intro h
        have h : q.2 = p := Option.some.inj h
        exact .inl (by rw [← e, ← h])
    · rw [decide_eq_false e]
      refine Iff.trans ?_ ih
      constructor
      · rintro (h | h)
        · exact absurd (by rw [← h]) e
        · exact h
      · exact .inr
theorem nodup_le : ∀ (m : Nat) (l : List Int) (a : Int), l.Nodup → (∀ x ∈ l, a ≤ x ∧ x < a + m) → l.length ≤ m
  | 0, l, a, _, h => by
    cases l with
    | nil => exact Nat.le_refl _
    | cons x l => have := h x (List.mem_cons_self ..); omega
  | m + 1, l, a, nd, h => by
    have ih := nodup_le m (l.erase (a + m)) a (nd.erase _) fun x hx => by
      obtain ⟨h1, h2⟩ := (List.Nodup.mem_erase_iff nd).mp hx
      have := h x h2
      omega
    have := List.length_erase (a := a + m) (l := l)
    split at this <;> omega
theorem Dk.len {l : List (Int × Int)} {P : Int → Option Int} (D : Dk l P) {a : Int} {m : Nat} (h : ∀ g p, P g = some p → a ≤ g ∧ g < a + m) : l.length ≤ m := by
  have := nodup_le m (l.map (·.1)) a D.nd fun x hx => by
    obtain ⟨p, hp, rfl⟩ := List.mem_map.mp hx
    exact h _ _ (D.mem.mp (show (p.1, p.2) ∈ l from hp))
  rwa [List.length_map] at this
/-! least mean circles: the mean of Karp is the rate -/
theorem fin_low {n : Nat} (f : Nat → Int) : ∃ L : Int, ∀ e, e < n → L ≤ f e := by
  induction n with
  | zero => exact ⟨0, fun e h => absurd h (by omega)⟩
  | succ n ih =>
    obtain ⟨L, h⟩ := ih
    refine ⟨min L (f n), fun e he => ?_⟩
    by_cases z : e = n
    · subst z; omega
    · have := h e (by omega); omega
theorem fin_low2 {n m : Nat} (f : Nat → Nat → Int) : ∃ L : Int, ∀ k, k < m → ∀ e, e < n → L ≤ f k e := by
  induction m with
  | zero => exact ⟨0, fun e h => absurd h (by omega)⟩
  | succ m ih =>
    obtain ⟨L, h⟩ := ih
    obtain ⟨L2, h2⟩ := fin_low (n := n) (f m)
    refine ⟨min L L2, fun k hk e he => ?_⟩
    by_cases z : k = m
    · subst z; have := h2 e he; omega
    · have := h k (by omega) e he; omega
theorem fin_up2 {n m : Nat} (f : Nat → Nat → Int) : ∃ U : Int, ∀ k, k < m → ∀ e, e < n → f k e ≤ U := by
  obtain ⟨L, h⟩ := fin_low2 (n := n) (m := m) fun k e => -f k e
  exact ⟨-L, fun k hk e he => by have := h k hk e he; omega⟩
/-- the least sums of so many steps that end at each gap -/
def MpB (n : Nat) (A F : Nat → Nat → Int) : Prop := ∀ k e, e < n → (∀ b, b < n → F (k + 1) e ≤ F k b + A b e) ∧ ∃ b, b < n ∧ F (k + 1) e = F k b + A b e
theorem mp_low {n : Nat} {A F : Nat → Nat → Int} (h : MpB n A F) (h1 : ∀ e, e < n → ∃ k, k < n ∧ F k e ≤ F n e) : ∃ L : Int, ∀ m e, e < n → L ≤ F m e := by
  obtain ⟨L, hL⟩ := fin_low2 (n := n) (m := n) F
  have st : ∀ j e, e < n → ∃ k, k < n ∧ F (k + j) e ≤ F (n + j) e := fun j => by
    induction j with
    | zero => exact h1
    | succ j ih =>
      intro e he
      obtain ⟨b, hb, eb⟩ := (h (n + j) e he).2
      obtain ⟨k, hk, hkb⟩ := ih b hb
      refine ⟨k, hk, ?_⟩
      have := (h (k + j) e he).1 b hb
      rw [show k + (j + 1) = k + j + 1 by omega, show n + (j + 1) = n + j + 1 by omega]
      omega
  refine ⟨L, fun m => ?_⟩
  induction m using Nat.strongRecOn with
  | _ m ih =>
    intro e he
    by_cases hm : m < n
    · exact hL m hm e he
    · obtain ⟨k, hk, h3⟩ := st (m - n) e he
      have := ih (k + (m - n)) (by omega) e he
      rw [show n + (m - n) = m by omega] at h3
      omega
theorem mp_path {n : Nat} {A F : Nat → Nat → Int} (h : MpB n A F) : ∀ m e, e < n → ∃ p : Nat → Nat, p m = e ∧ (∀ k, k ≤ m → p k < n) ∧ ∀ k, k < m → F (k + 1) (p (k + 1)) = F k (p k) + A (p k) (p (k + 1))
  | 0, e, he => ⟨fun _ => e, rfl, fun _ _ => he, fun k hk => absurd hk (by omega)⟩
  | m + 1, e, he => by
    obtain ⟨b, hb, eb⟩ := (h m e he).2
    obtain ⟨p, p1, p2, p3⟩ := mp_path h m b hb
    refine ⟨fun k => if k = m + 1 then e else p k, if_pos rfl, fun k hk => ?_, fun k hk => ?_⟩
    · dsimp only
      split
      · exact he
      · exact p2 k (by omega)
    · dsimp only
      by_cases z : k = m
      · subst z
        rw [if_pos rfl, if_neg (by omega), p1]
        exact eb
      · rw [if_neg (by omega), if_neg (by omega)]
        exact p3 k (by omega)
theorem pigeons {n : Nat} {p : Nat → Nat} (h : ∀ k, k ≤ n → p k < n) : ∃ i j, i < j ∧ j ≤ n ∧ p i = p j := by
  refine Classical.byContradiction fun hno => ?_
  have hne : ∀ i j, i < j → j ≤ n → p i ≠ p j := fun i j h1 h2 e => hno ⟨i, j, h1, h2, e⟩
  have nd : ((List.range (n + 1)).map fun k => ((p k : Nat) : Int)).Nodup := by
    rw [List.nodup_iff_pairwise_ne, List.pairwise_map]
    refine List.pairwise_iff_getElem.mpr fun i j hi hj hij => ?_
    rw [List.getElem_range, List.getElem_range]
    rw [List.length_range] at hj
    have := hne i j hij (by omega)
    omega
  have := nodup_le n _ 0 nd fun x hx => by
    obtain ⟨k, hk, rfl⟩ := List.mem_map.mp hx
    have := h k (by have := List.mem_range.mp hk; omega)
    omega
  rw [List.length_map, List.length_range] at this
  omega
theorem mp_up {n : Nat} {A F : Nat → Nat → Int} (h : MpB n A F) (h1 : ∃ e, e < n ∧ ∀ k, k < n → F n e ≤ F k e) : ∃ U : Int, ∀ m e, e < n → F m e ≤ U := by
  obtain ⟨e0, he0, h1⟩ := h1
  obtain ⟨p, p1, p2, p3⟩ := mp_path h n e0 he0
  obtain ⟨i, j, hij, hj, hv⟩ := pigeons p2
  have hvn : p i < n := p2 i (by omega)
  -- along the way, from any later number of steps
  have go : ∀ s a t, s + t ≤ n → F (a + t) (p (s + t)) ≤ F a (p s) + (F (s + t) (p (s + t)) - F s (p s)) := fun s a t => by
    induction t with
    | zero => intro _; rw [Nat.add_zero, Nat.add_zero]; omega
    | succ t ih =>
      intro hst
      have i1 := ih (by omega)
      have i2 := (h (a + t) (p (s + t + 1)) (p2 _ (by omega))).1 (p (s + t)) (p2 _ (by omega))
      have i3 := p3 (s + t) (by omega)
      rw [show a + (t + 1) = a + t + 1 by omega, show s + (t + 1) = s + t + 1 by omega]
      omega
  have hle : F j (p i) ≤ F i (p i) := by
    have g := go j i (n - j) (by omega)
    rw [show j + (n - j) = n by omega, p1] at g
    have := h1 (i + (n - j)) (by omega)
    rw [← hv] at g
    omega
  have per : ∀ a, F (a + (j - i)) (p i) ≤ F a (p i) := fun a => by
    have g := go i a (j - i) (by omega)
    rw [show i + (j - i) = j by omega, ← hv] at g
    omega
  have pers : ∀ t, F (i + t * (j - i)) (p i) ≤ F i (p i) := fun t => by
    induction t with
    | zero => rw [Nat.zero_mul, Nat.add_zero]; omega
    | succ t ih =>
      have := per (i + t * (j - i))
      rw [Nat.add_mul, Nat.one_mul, ← Nat.add_assoc]
      omega
  obtain ⟨B, hB⟩ := fin_up2 (n := n) (m := n) A
  have far : ∀ s a e, e < n → F (a + s + 1) e ≤ F a (p i) + (s + 1) * max B 0 := fun s => by
    induction s with
    | zero =>
      intro a e he
      have i2 := (h a e he).1 (p i) hvn
      have := hB (p i) hvn e he
      rw [Nat.add_zero]
      omega
    | succ s ih =>
      intro a e he
      have i1 := ih a (p i) hvn
      have i2 := (h (a + s + 1) e he).1 (p i) hvn
      have := hB (p i) hvn e he
      rw [show a + (s + 1) + 1 = a + s + 1 + 1 by omega, show (((s + 1 : Nat) : Int) + 1) * max B 0 = ((s : Int) + 1) * max B 0 + max B 0 by rw [Int.add_mul ((s + 1 : Nat) : Int), Int.one_mul]; rfl]
      omega
  obtain ⟨U, hU⟩ := fin_up2 (n := n) (m := i + 1) F
  refine ⟨max U (F i (p i) + n * max B 0), fun m e he => ?_⟩
  by_cases hm : m ≤ i
  · have := hU m (by omega) e he; omega
  · have hl : 0 < j - i := by omega
    have hmod := Nat.mod_lt (m - 1 - i) hl
    have hdm := Nat.div_add_mod (m - 1 - i) (j - i)
    have g := far ((m - 1 - i) % (j - i)) (i + (m - 1 - i) / (j - i) * (j - i)) e he
    have em : i + (m - 1 - i) / (j - i) * (j - i) + (m - 1 - i) % (j - i) + 1 = m := by
      rw [Nat.mul_comm] at hdm; omega
    rw [em] at g
    have g2 := pers ((m - 1 - i) / (j - i))
    have g3 : (((m - 1 - i) % (j - i) : Nat) + 1 : Int) * max B 0 ≤ n * max B 0 := Int.mul_le_mul_of_nonneg_right (by omega) (by omega)
    omega
/-- the places from k on whose rank reaches b -/
def sF (b : Int) : Int → List Int → List Int
  | _, [] => []
  | k, r :: l => if b ≤ r then k :: sF b (k + 1) l else sF b (k + 1) l
def strongL (l : List Int) (b : Int) : List Int := sF b 0 l
def sG (b : Int) : D → Option D
  | .tup [.int i, .int r] => if b ≤ r then some (.int i) else none
  | _ => none
theorem sG_T {b i r : Int} (h : b ≤ r) : sG b (.tup [.int i, .int r]) = some (.int i) := if_pos h
theorem sG_F {b i r : Int} (h : ¬ b ≤ r) : sG b (.tup [.int i, .int r]) = none := if_neg h
theorem mem_enumD : ∀ (l : List Int) (k : Nat) {x : D}, x ∈ enumD k (l.map D.int) → ∃ i : Nat, ∃ r : Int, x = .tup [.int i, .int r]
  | [], _, _, h => by simp [enumD] at h
  | r :: l, k, x, h => by
    rw [List.map_cons, enumD] at h
    rcases List.mem_cons.mp h with e | e
    · exact ⟨k, r, e⟩
    · exact mem_enumD l (k + 1) e
theorem sG_all (b : Int) : ∀ (l : List Int) (k : Nat), (enumD k (l.map D.int)).filterMap (sG b) = (sF b k l).map D.int
  | [], _ => by simp [enumD, sF]
  | r :: l, k => by
    rw [List.map_cons, enumD, sF]
    have ih := sG_all b l (k + 1)
    by_cases h : b ≤ r
    · rw [if_pos h, List.filterMap_cons_some (sG_T h), ih]; rfl
    · rw [if_neg h, List.filterMap_cons_none (sG_F h), ih]; rfl
theorem sF_len (b : Int) : ∀ (l : List Int) (k : Int), (sF b k l).length = l.countP fun r => decide (b ≤ r)
  | [], _ => rfl
  | r :: l, k => by
    rw [sF, List.countP_cons]
    by_cases h : b ≤ r
    · rw [if_pos h, List.length_cons, sF_len b l, if_pos (decide_eq_true h)]
    · rw [if_neg h, sF_len b l, if_neg (by simpa using h)]; rfl
theorem stF_len (l : List Int) (b : Int) : (stF l b).length ≤ l.length := by
  have := List.length_filter_le (fun p => decide (b ≤ ig l p)) (iota l.length)
  rw [iota_len] at this
  exact this
/-! block rings: all levels come from them -/
/-- the levels of a block of c strong persons, the last one at x, seen from there -/
def blF (n : Nat) (c x : Int) (g : Int) : Int := -((g - x) / (n : Int) * c + max 0 ((g - x) % (n : Int) - (n - c)))
theorem blF_lap {n : Nat} (h0 : 0 < n) (c x : Int) : LpB n c (blF n c x) := fun g => by
  unfold blF
  rw [show g + (n : Int) - x = g - x + 1 * n by omega, Int.add_mul_ediv_right _ _ (by omega), Int.add_mul_emod_self_right, Int.add_mul]
  omega
theorem pred_divmod {n : Nat} (h0 : 0 < n) (y : Int) : ((y % (n : Int) = 0 ∧ (y - 1) / (n : Int) = y / n - 1 ∧ (y - 1) % (n : Int) = n - 1) ∨ (0 < y % (n : Int) ∧ (y - 1) / (n : Int) = y / n ∧ (y - 1) % (n : Int) = y % n - 1)) ∧ 0 ≤ y % (n : Int) ∧ y % (n : Int) < n := by
  have r0 := Int.emod_nonneg y (show (n : Int) ≠ 0 by omega)
  have r1 := Int.emod_lt_of_pos y (show (0 : Int) < n by omega)
  have d1 := Int.emod_add_mul_ediv y n
  have d2 := Int.emod_add_mul_ediv (y - 1) n
  refine ⟨?_, r0, r1⟩
  by_cases h : y % (n : Int) = 0
  · have := ediv_pred0 h0 h
    refine .inl ⟨h, this, ?_⟩
    rw [this, Int.mul_sub, Int.mul_one] at d2
    omega
  · have := ediv_pred h0 h
    refine .inr ⟨by omega, this, ?_⟩
    rw [this] at d2
    omega
theorem blF_step {n : Nat} (h0 : 0 < n) {c : Int} (c0 : 0 ≤ c) (c1 : c ≤ n) (x g : Int) : blF n c x (g - 1) = blF n c x g + if (x - g) % (n : Int) < c then 1 else 0 := by
  obtain ⟨h, r0, r1⟩ := pred_divmod h0 (g - x)
  have d1 := Int.emod_add_mul_ediv (g - x) n
  unfold blF
  rw [show g - 1 - x = g - x - 1 by omega]
  rcases h with ⟨a, b, d⟩ | ⟨a, b, d⟩
  · have em : (x - g) % (n : Int) = 0 := by
      rw [show x - g = 0 + (-((g - x) / n)) * n by rw [Int.neg_mul, Int.mul_comm]; omega, Int.add_mul_emod_self_right]
      rfl
    rw [b, d, em, a, Int.sub_mul]
    split <;> omega
  · have em : (x - g) % (n : Int) = n - (g - x) % n := by
      rw [show x - g = (n - (g - x) % n) + (-((g - x) / n) - 1) * n by rw [Int.sub_mul, Int.neg_mul, Int.mul_comm ((g - x) / (n : Int)) n]; omega, Int.add_mul_emod_self_right, Int.emod_eq_of_lt (by omega) (by omega)]
    rw [b, d, em]
    split <;> omega
theorem blF_stB {n : Nat} (h0 : 0 < n) {c : Int} (c0 : 0 ≤ c) (c1 : c ≤ n) (x : Int) : StB (blF n c x) := fun g => by
  have := blF_step h0 c0 c1 x g
  split at this <;> omega
theorem blF_self {n : Nat} (h0 : 0 < n) {c : Int} (c1 : c ≤ n) (x : Int) : blF n c x x = 0 := by
  unfold blF
  rw [Int.sub_self, Int.zero_ediv, Int.zero_emod]
  omega
theorem StB.far {H : Int → Int} (S : StB H) : ∀ (k : Nat) (g : Int), H (g + k) ≤ H g ∧ H g ≤ H (g + k) + k
  | 0, g => by simp
  | k + 1, g => by
    have := StB.far S k g
    have s := S (g + ((k + 1 : Nat) : Int))
    rw [show g + ((k + 1 : Nat) : Int) - 1 = g + (k : Int) by omega] at s
    omega
/-- each level is the least one by way of a place -/
theorem blk_min {n : Nat} (h0 : 0 < n) {c : Int} (c0 : 0 ≤ c) (c1 : c ≤ n) {H : Int → Int} (S : StB H) (L : LpB n c H) (g : Int) : IsMn (fun x : Fin n => H (x.val : Int) + blF n c (x.val : Int) g) (H g) := by
  refine ⟨fun x => ?_, ?_⟩
  · have r0 := Int.emod_nonneg (g - x.val) (show (n : Int) ≠ 0 by omega)
    have r1 := Int.emod_lt_of_pos (g - x.val) (show (0 : Int) < n by omega)
    have d1 := Int.emod_add_mul_ediv (g - x.val) n
    have e : g = (x.val : Int) + (g - x.val) % n + (g - x.val) / n * n := by rw [Int.mul_comm] at d1; omega
    have hl := L.laps ((x.val : Int) + (g - x.val) % n) ((g - x.val) / n)
    rw [← e] at hl
    have f1 := (S.far ((g - x.val) % n).toNat x.val).1
    have f2 := (S.far (n - (g - x.val) % n).toNat ((x.val : Int) + (g - x.val) % n)).2
    have f3 := L (x.val : Int)
    rw [show (((g - x.val) % (n : Int)).toNat : Int) = (g - x.val) % n by omega] at f1
    rw [show ((n - (g - x.val) % (n : Int)).toNat : Int) = n - (g - x.val) % n by omega, show (x.val : Int) + (g - x.val) % n + (n - (g - x.val) % n) = x.val + n by omega, f3] at f2
    unfold blF
    dsimp only
    omega
  · obtain ⟨i, hi, ei, eg⟩ := unroll n h0 g
    refine ⟨⟨i, hi⟩, ?_⟩
    have hl := L.laps (i : Int) (g / n)
    rw [← eg] at hl
    unfold blF
    dsimp only
    have e : g - (i : Int) = 0 + (g / n) * n := by omega
    rw [e, Int.add_mul_ediv_right _ _ (by omega), Int.add_mul_emod_self_right, Int.zero_emod, hl, Int.zero_ediv, Int.zero_add]
    omega
/-- the values of a schedule -/
def valC (n : Nat) (gs : List Int) (c x e : Int) : Int := ruH n gs (blF n c x) e
theorem val_min {n : Nat} (h0 : 0 < n) {c : Int} (c0 : 0 ≤ c) (c1 : c ≤ n) {H : Int → Int} (S : StB H) (L : LpB n c H) (gs : List Int) (e : Int) : IsMn (fun x : Fin n => H (x.val : Int) + valC n gs c (x.val : Int) e) (ruH n gs H e) := by
  have h := IsMn.ru n gs (F := fun (x : Fin n) g => H (x.val : Int) + blF n c (x.val : Int) g) (G := H) (fun g => blk_min h0 c0 c1 S L g) e
  simp only [ruH_add] at h
  exact h
/-- one schedule after another -/
theorem val_app {n : Nat} (h2 : 2 ≤ n) {c : Int} (c0 : 0 ≤ c) (c1 : c ≤ n) (g1 g2 : List Int) (x e : Int) : IsMn (fun y : Fin n => valC n g1 c x (y.val : Int) + valC n g2 c (y.val : Int) e) (valC n (g1 ++ g2) c x e) := by
  have h := val_min (n := n) (by omega) c0 c1 ((blF_stB (by omega) c0 c1 x).ru h2 g1) ((blF_lap (by omega) c x).ru g1) g2 e
  unfold valC at *
  rw [ruH_app]
  exact h
/-- levels by a list -/
def extH (n : Nat) (c : Int) (l : List Int) (g : Int) : Int := ig l (g % (n : Int)) - g / n * c
theorem extH_map {n : Nat} (h0 : 0 < n) {c : Int} {H : Int → Int} (L : LpB n c H) : extH n c ((iota n).map H) = H := by
  funext g
  obtain ⟨i, hi, ei, eg⟩ := unroll n h0 g
  have a := L.laps (i : Int) (g / n)
  rw [← eg] at a
  unfold extH
  rw [ei, ig_map (by rw [iota_len]; exact hi), ig_iota hi, a]
theorem ig_ext_map {n i : Nat} (H : Int → Int) (hi : i < n) : ig ((iota n).map H) (i : Int) = H i := by
  rw [ig_map (by rw [iota_len]; exact hi), ig_iota hi]
/-! levels tell who ends where -/
/-- persons of one rank keep their order -/
def EqO (n : Nat) (r t : List Int) : Prop := ∀ p q : Nat, p < n → q < n → rkP r (ig t (p : Int)) = rkP r (ig t (q : Int)) → (ig t (q : Int) - ig t (p : Int)) / (n : Int) = ((q : Int) - p) / n
theorem EqO.call {n : Nat} {r t : List Int} (hr : r.length = n) (hl : t.length = n) (h2 : 2 ≤ n) (h : EqO n r t) {k : Nat} (hk : k < n) : EqO n r (callT r t k) := by
  unfold callT
  split
  · rename_i hpp
    have hx := nxP_lt (n := n) (g := k) (by omega)
    have hne := nxP_ne h2 hk
    have h0 : 0 < n := by omega
    have hpass : rkP r (ig t (nxP n k : Nat)) < rkP r (ig t (k : Int)) := by
      unfold passT at hpp
      have := of_decide_eq_true hpp
      rw [hl, (rkP_sh hr _).1] at this
      exact this
    have hnx := nx_sh (n := n) hk
    have F1 : ∀ p : Nat, p < n → p ≠ nxP n k → ((k : Int) + 1 - p) / n = ((k : Int) - p) / n := fun p hp hpn => by
      rw [show (k : Int) - p = k + 1 - p - 1 by omega, ediv_pred h0]
      intro hz
      have e := sub_emod_zero hz
      rw [Int.emod_eq_of_lt (a := (p : Int)) (by omega) (by omega)] at e
      have := nxP_mod hk
      omega
    have F2 : ∀ q : Nat, q < n → q ≠ k → ((q : Int) - k - 1) / n = ((q : Int) - k) / n := fun q hq hqk => by
      rw [ediv_pred h0]
      intro hz
      have e := sub_emod_zero hz
      rw [Int.emod_eq_of_lt (a := (q : Int)) (by omega) (by omega), Int.emod_eq_of_lt (a := (k : Int)) (by omega) (by omega)] at e
      omega
    have e1 : ig (swapT t k) (k : Int) = ig t (nxP n k : Nat) + shP n k := by rw [swapT_at hl hk, if_neg hne, if_pos rfl]
    have e2 : ig (swapT t k) (nxP n k : Nat) = ig t (k : Int) - shP n k := by rw [swapT_at hl hk, if_pos rfl]
    have e3 : ∀ p : Nat, p ≠ k → p ≠ nxP n k → ig (swapT t k) (p : Int) = ig t (p : Int) := fun p h1 h3 => by rw [swapT_at hl hk, if_neg (fun z => h3 z.symm), if_neg (fun z => h1 z.symm)]
    have dv := sh_div (n := n) (k := k) h0
    intro p q hp hq he
    by_cases p1 : p = k
    · subst p1
      by_cases q1 : q = p
      · subst q1; rw [Int.sub_self, Int.sub_self]
      · by_cases q2 : q = nxP n p
        · subst q2
          rw [e1, e2, (rkP_sh hr _).1, (rkP_sh hr _).2] at he
          omega
        · rw [e1, e3 q q1 q2, (rkP_sh hr _).1] at he
          rw [e1, e3 q q1 q2, show ig t (q : Int) - (ig t (nxP n p : Nat) + shP n p) = ig t (q : Int) - ig t (nxP n p : Nat) - shP n p by omega, (dv _).2, h _ q hx hq he, ← (dv _).2, hnx, show (q : Int) - (p + 1 - shP n p) - shP n p = q - p - 1 by omega, F2 q hq q1]
    · by_cases p2 : p = nxP n k
      · subst p2
        by_cases q1 : q = k
        · subst q1
          rw [e1, e2, (rkP_sh hr _).1, (rkP_sh hr _).2] at he
          omega
        · by_cases q2 : q = nxP n k
          · subst q2; rw [Int.sub_self, Int.sub_self]
          · rw [e2, e3 q q1 q2, (rkP_sh hr _).2] at he
            rw [e2, e3 q q1 q2, show ig t (q : Int) - (ig t (k : Int) - shP n k) = ig t (q : Int) - ig t (k : Int) + shP n k by omega, (dv _).1, h _ q hk hq he, hnx, show (q : Int) - (k + 1 - shP n k) = q - k - 1 + shP n k by omega, (dv _).1, F2 q hq q1]
      · by_cases q1 : q = k
        · subst q1
          rw [e1, e3 p p1 p2, (rkP_sh hr _).1] at he
          rw [e1, e3 p p1 p2, show ig t (nxP n q : Nat) + shP n q - ig t (p : Int) = ig t (nxP n q : Nat) - ig t (p : Int) + shP n q by omega, (dv _).1, h p _ hp hx he, ← (dv _).1, hnx, show (q : Int) + 1 - shP n q - p + shP n q = q + 1 - p by omega, F1 p hp p2]
        · by_cases q2 : q = nxP n k
          · subst q2
            rw [e2, e3 p p1 p2, (rkP_sh hr _).2] at he
            rw [e2, e3 p p1 p2, show ig t (k : Int) - shP n k - ig t (p : Int) = ig t (k : Int) - ig t (p : Int) - shP n k by omega, (dv _).2, h p _ hp hk he, hnx, show (k : Int) + 1 - shP n k - p = k + 1 - p - shP n k by omega, (dv _).2, F1 p hp p2]
          · rw [e3 p p1 p2, e3 q q1 q2] at he ⊢
            exact h p q hp hq he
  · exact h
theorem EqO.run {n : Nat} {r : List Int} (hr : r.length = n) (h2 : 2 ≤ n) : ∀ (gs t : List Int), t.length = n → (∀ x ∈ gs, 0 ≤ x ∧ x < n) → EqO n r t → EqO n r (runT r gs t)
  | [], _, _, _, h => h
  | k :: gs, t, hl, hg, h => by
    obtain ⟨k0, k1⟩ := hg k (List.mem_cons_self ..)
    exact EqO.run hr h2 gs _ (by rw [callT_len, hl]) (fun y hy => hg y (List.mem_cons_of_mem _ hy)) (h.call hr hl h2 (by omega))
theorem rkP_mem {n : Nat} {r : List Int} (hr : r.length = n) (h0 : 0 < n) (x : Int) : rkP r x ∈ r := by
  unfold rkP
  rw [hr]
  have := Int.emod_nonneg x (show (n : Int) ≠ 0 by omega)
  have := Int.emod_lt_of_pos x (show (0 : Int) < n by omega)
  exact ig_mem ⟨by omega, by omega⟩
/-- how many reach b at the unrolled places from 0 to g -/
def cntL (l : List Int) (b : Int) : Nat := l.countP fun r => decide (b ≤ r)
def upTo (l : List Int) (b g : Int) : Int := g / l.length * cntL l b + cntL (l.take ((g % l.length).toNat + 1)) b
theorem sF_upto (b : Int) : ∀ (l : List Int) (k : Int) (p : Int), ((sF b k l).filter fun o => decide (o ≤ p)).length = cntL (l.take (p - k + 1).toNat) b
  | [], _, _ => by simp [sF, cntL]
  | r :: l, k, p => by
    have ih := sF_upto b l (k + 1) p
    have e0 : p - (k + 1) + 1 = p - k := by omega
    rw [e0] at ih
    by_cases hk : k ≤ p
    · have e1 : (p - k + 1).toNat = (p - k).toNat + 1 := by omega
      rw [e1, List.take_succ_cons, cntL, List.countP_cons, sF]
      have ih : ((sF b (k + 1) l).filter fun o => decide (o ≤ p)).length = List.countP (fun r => decide (b ≤ r)) (l.take (p - k).toNat) := ih
      by_cases h : b ≤ r
      · rw [if_pos h, List.filter_cons, if_pos (decide_eq_true hk), List.length_cons, ih, if_pos (decide_eq_true h)]
      · rw [if_neg h, ih, if_neg (by simpa using h)]; rfl
    · have e1 : (p - k + 1).toNat = 0 := by omega
      have e2 : (p - k).toNat = 0 := by omega
      rw [e1, List.take_zero]
      rw [e2, List.take_zero] at ih
      rw [sF]
      by_cases h : b ≤ r
      · rw [if_pos h, List.filter_cons, if_neg (by simpa using hk), ih]
      · rw [if_neg h, ih]
def leG (p : Int) : D → Option D
  | .int i => if i ≤ p then some (.int i) else none
  | _ => none
theorem leG_T {p i : Int} (h : i ≤ p) : leG p (.int i) = some (.int i) := if_pos h
theorem leG_F {p i : Int} (h : ¬ i ≤ p) : leG p (.int i) = none := if_neg h
theorem leG_all (p : Int) : ∀ l : List Int, (l.map D.int).filterMap (leG p) = (l.filter fun o => decide (o ≤ p)).map D.int
  | [] => rfl
  | r :: l => by
    rw [List.map_cons, List.filter_cons]
    by_cases h : r ≤ p
    · rw [List.filterMap_cons_some (leG_T h), leG_all p l, if_pos (decide_eq_true h)]; rfl
    · rw [List.filterMap_cons_none (leG_F h), leG_all p l, if_neg (by simpa using h)]
theorem cnt_take {l : List Int} {b : Int} {k : Nat} (h : k < l.length) : (cntL (l.take (k + 1)) b : Int) = cntL (l.take k) b + if b ≤ ig l k then 1 else 0 := by
  rw [ig_get h, List.take_add_one, List.getElem?_eq_getElem h, cntL, List.countP_append]
  simp only [Option.toList_some, List.countP_cons, List.countP_nil, Nat.zero_add, decide_eq_true_eq]
  unfold cntL
  split <;> simp
theorem upTo_step {l : List Int} (b p : Int) (h : 0 < l.length) : upTo l b p = upTo l b (p - 1) + if b ≤ ig l (p % l.length) then 1 else 0 := by
  have n0 : (0 : Int) < l.length := by omega
  have r0 := Int.emod_nonneg (p - 1) (show (l.length : Int) ≠ 0 by omega)
  have r1 := Int.emod_lt_of_pos (p - 1) n0
  have e := Int.emod_add_mul_ediv (p - 1) l.length
  have ep : p = ((p - 1) % l.length + 1) + l.length * ((p - 1) / l.length) := by omega
  have d : p / l.length = ((p - 1) % l.length + 1) / l.length + (p - 1) / l.length := by
    conv => lhs; rw [ep]
    exact Int.add_mul_ediv_left _ _ (by omega)
  have m : p % l.length = ((p - 1) % l.length + 1) % l.length := by
    conv => lhs; rw [ep]
    exact Int.add_mul_emod_self_left _ _ _
  unfold upTo
  rw [d, m]
  generalize (p - 1) % (l.length : Int) = r at r0 r1
  generalize (p - 1) / (l.length : Int) = q
  obtain ⟨k, rfl⟩ := Int.eq_ofNat_of_zero_le r0
  by_cases c : (k : Int) + 1 < l.length
  · rw [Int.ediv_eq_zero_of_lt (by omega) c, Int.emod_eq_of_lt (by omega) c, Int.zero_add]
    rw [show ((k : Int) + 1).toNat + 1 = (k + 1) + 1 by omega, cnt_take (by omega)]
    rw [show ((k : Int)).toNat + 1 = k + 1 by omega, show ((k + 1 : Nat) : Int) = (k : Int) + 1 by omega]
    omega
  · have ek : (k : Int) + 1 = l.length := by omega
    rw [ek, Int.ediv_self (by omega), Int.emod_self, show ((0 : Int)).toNat + 1 = 0 + 1 from rfl, cnt_take h]
    rw [show ((k : Int)).toNat + 1 = l.length by omega, List.take_length, List.take_zero, Int.add_mul]
    simp only [cntL, List.countP_nil]
    rw [show ((0 : Nat) : Int) = 0 from rfl]
    omega
/-! cards as data -/
theorem step_const {f : Int → Int} (h : ∀ g, f (g - 1) = f g) : ∀ a b : Int, f a = f b := by
  have down : ∀ (k : Nat) (a : Int), f (a - k) = f a := fun k => by
    induction k with
    | zero => intro a; simp
    | succ k ih =>
      intro a
      rw [show a - ((k + 1 : Nat) : Int) = a - k - 1 by omega, h, ih]
  intro a b
  rcases Int.le_total a b with z | z
  · have := down (b - a).toNat b
    rwa [show b - (((b - a).toNat : Nat) : Int) = a by omega] at this
  · have := down (a - b).toNat a
    rw [show a - (((a - b).toNat : Nat) : Int) = b by omega] at this
    exact this.symm
theorem blF_upTo {n c : Nat} (h0 : 0 < n) (c1 : c ≤ n) (x g : Int) : blF n c x g = upTo (blk n c x) 1 x - upTo (blk n c x) 1 g := by
  have hl := blk_len n c x
  have key : ∀ g, blF n c x (g - 1) + upTo (blk n c x) 1 (g - 1) = blF n c x g + upTo (blk n c x) 1 g := fun g => by
    have s1 := blF_step h0 (c := c) (by omega) (by omega) x g
    have s2 := upTo_step (l := blk n c x) 1 g (by omega)
    obtain ⟨i, hi, ei, eg⟩ := unroll n h0 g
    have em : (x - g) % (n : Int) = (x - i) % (n : Int) := by
      rw [show x - g = x - i + (-(g / n)) * n by rw [Int.neg_mul]; omega, Int.add_mul_emod_self_right]
    rw [hl, ei, ig_blk _ _ hi] at s2
    rw [em] at s1
    split at s1 <;> rename_i h <;> simp only [h, if_true, if_false] at s2 <;> omega
  have := step_const (f := fun g => blF n c x g + upTo (blk n c x) 1 g) key g x
  have := blF_self h0 (c := c) (by omega) x
  omega
/-- the rows of a count -/
def rowL (n : Nat) (gs : List Int) (c : Nat) (x : Nat) : List Int := (iota n).map (valC n gs c x)
def tabL (n : Nat) (gs : List Int) (c : Nat) : List D := (List.range n).map fun x => iL (rowL n gs c x)
def tabsD (n : Nat) (gs : List Int) : List D := (List.range (n - 1)).map fun k => .lst (tabL n gs (k + 1))
def cardD (C : Addr) (n : Nat) (gs : List Int) : D := .obj C ["places", "tables"] [.int n, .lst (tabsD n gs)]
theorem rowL_len (n : Nat) (gs : List Int) (c x : Nat) : (rowL n gs c x).length = n := by unfold rowL; rw [List.length_map, iota_len]
theorem ig_rowL {n : Nat} (gs : List Int) (c x : Nat) {e : Nat} (he : e < n) : ig (rowL n gs c x) (e : Int) = valC n gs c x e := ig_ext_map _ he
theorem tabL_len (n : Nat) (gs : List Int) (c : Nat) : (tabL n gs c).length = n := by unfold tabL; simp
theorem tabsD_len (n : Nat) (gs : List Int) : (tabsD n gs).length = n - 1 := by unfold tabsD; simp
theorem at_tabL {n : Nat} (gs : List Int) (c : Nat) {x : Nat} (hx : x < n) : atI (tabL n gs c) (x : Int) = some (iL (rowL n gs c x)) := by
  unfold atI
  rw [ixN_nat (by rw [tabL_len]; exact hx), Option.bind_some]
  unfold tabL
  rw [List.getElem?_map, List.getElem?_range hx]; rfl
theorem at_tabsD {n : Nat} (gs : List Int) {c : Nat} (c0 : 1 ≤ c) (c1 : c < n) : atI (tabsD n gs) ((c : Int) - 1) = some (.lst (tabL n gs c)) := by
  unfold atI
  rw [show (c : Int) - 1 = ((c - 1 : Nat) : Int) by omega, ixN_nat (by rw [tabsD_len]; omega), Option.bind_some]
  unfold tabsD
  rw [List.getElem?_map, List.getElem?_range (by omega)]
  show some (D.lst (tabL n gs (c - 1 + 1))) = _
  rw [show c - 1 + 1 = c by omega]
/-- a schedule, repeated -/
def repG (k : Nat) (gs : List Int) : List Int := (List.replicate k gs).flatten
theorem repG_add (a b : Nat) (gs : List Int) : repG (a + b) gs = repG a gs ++ repG b gs := by
  unfold repG
  rw [← List.replicate_append_replicate, List.flatten_append]
theorem repG_one (gs : List Int) : repG 1 gs = gs := by simp [repG]
theorem repG_zero (gs : List Int) : repG 0 gs = [] := rfl
theorem Sch.rep {n : Int} {gs : List Int} (h : Sch n gs) (k : Nat) : Sch n (repG k gs) := ⟨fun x hx => by
  unfold repG at hx
  obtain ⟨l, hl, hx⟩ := List.mem_flatten.mp hx
  rw [(List.mem_replicate.mp hl).2] at hx
  exact h.mem x hx⟩
theorem Sch.app {n : Int} {g1 g2 : List Int} (h1 : Sch n g1) (h2 : Sch n g2) : Sch n (g1 ++ g2) := ⟨fun x hx => (List.mem_append.mp hx).elim (h1.mem x) (h2.mem x)⟩
theorem Sch.nil {n : Int} : Sch n [] := ⟨fun x hx => by cases hx⟩
theorem least_min {n : Nat} {f : Int → Int} {m : Int} (h1 : m ∈ (iota n).map f) (h2 : ∀ y, y ∈ (iota n).map f → m ≤ y) : IsMn (fun x : Fin n => f (x.val : Int)) m := by
  refine ⟨fun x => h2 _ (List.mem_map.mpr ⟨_, mem_iota.mpr ⟨by omega, by have := x.isLt; omega⟩, rfl⟩), ?_⟩
  obtain ⟨y, hy, e⟩ := List.mem_map.mp h1
  obtain ⟨y0, y1⟩ := mem_iota.mp hy
  refine ⟨⟨y.toNat, by omega⟩, ?_⟩
  dsimp only
  rw [show ((y.toNat : Nat) : Int) = y by omega, e]
/-- the levels after one call, by a list -/
theorem map_stH {n : Nat} {k : Nat} (hk : k < n) (H : Int → Int) : (iota n).map (stH n k H) = ((iota n).map H).set k (min (H ((k : Int) - 1)) (H ((k : Int) + 1) + 1)) := by
  refine ig_ext (by rw [List.length_set, List.length_map, List.length_map]) fun i hi => ?_
  rw [List.length_map, iota_len] at hi
  rw [ig_ext_map _ hi, ig_set (by rw [List.length_map, iota_len]; exact hk), ig_ext_map _ hi]
  unfold stH
  by_cases e : k = i
  · subst e
    rw [if_pos rfl, if_pos (by rw [Int.sub_self]; rfl)]
  · rw [if_neg e, if_neg fun z => e ?_]
    have := sub_emod_zero z
    rw [Int.emod_eq_of_lt (by omega) (by omega), Int.emod_eq_of_lt (by omega) (by omega)] at this
    omega
/-- two neighbours exchanged, on the unrolled places -/
def sig (n g : Nat) (p : Int) : Int := if p % (n : Int) = g then p + 1 else if p % (n : Int) = (nxP n g : Nat) then p - 1 else p
theorem nx_iff {n g : Nat} (h2 : 2 ≤ n) (hg : g < n) (p : Int) : (p + 1) % (n : Int) = (nxP n g : Nat) ↔ p % (n : Int) = g := by
  obtain ⟨i, hi, ei, exx⟩ := unroll n (by omega) p
  have e : (p + 1) % (n : Int) = (nxP n i : Nat) := by
    rw [exx, show (i : Int) + p / n * n + 1 = (i + 1) + p / n * n by omega, Int.add_mul_emod_self_right, nxP_mod hi]
  rw [e, ei]
  constructor
  · intro h
    have h : nxP n i = nxP n g := by omega
    unfold nxP at h
    split at h <;> split at h <;> omega
  · intro h
    have h : i = g := by omega
    rw [h]
theorem sig_lt {n g : Nat} (h2 : 2 ≤ n) (hg : g < n) {p q : Int} (h : p < q) (hn : ¬ (p % (n : Int) = g ∧ q = p + 1)) : sig n g p < sig n g q := by
  have a := nx_iff h2 hg p
  have b := nx_iff h2 hg (q - 1)
  rw [show q - 1 + 1 = q by omega] at b
  have hne := nxP_ne h2 hg
  unfold sig
  by_cases c1 : p % (n : Int) = g
  · rw [if_pos c1]
    by_cases c2 : q % (n : Int) = g
    · rw [if_pos c2]; omega
    · rw [if_neg c2]
      by_cases c3 : q % (n : Int) = (nxP n g : Nat)
      · rw [if_pos c3]
        have : q ≠ p + 2 := fun z => by
          have h1 := a.mpr c1
          have h2' := b.mp c3
          rw [z, show p + 2 - 1 = p + 1 by omega, h1] at h2'
          omega
        omega
      · rw [if_neg c3]; omega
  · rw [if_neg c1]
    have e1 : (if p % (n : Int) = (nxP n g : Nat) then p - 1 else p) ≤ p := by split <;> omega
    by_cases c2 : q % (n : Int) = g
    · rw [if_pos c2]; omega
    · rw [if_neg c2]
      by_cases c3 : q % (n : Int) = (nxP n g : Nat)
      · rw [if_pos c3]
        have : q ≠ p + 1 := fun z => c1 (by have := b.mp c3; rw [z, show p + 1 - 1 = p by omega] at this; exact this)
        omega
      · rw [if_neg c3]; omega
theorem endAt_swap {n : Nat} {t : List Int} (hl : t.length = n) (h2 : 2 ≤ n) {g : Nat} (hg : g < n) (p : Int) : endAt (swapT t g) p = endAt t (sig n g p) := by
  obtain ⟨i, hi, ei, exx⟩ := unroll n (by omega) p
  have hne := nxP_ne h2 hg
  have e0 : endAt (swapT t g) p = ig (swapT t g) (i : Int) + p / n * n := by unfold endAt; rw [swapT_len, hl, ei]
  rw [e0, swapT_at hl hg]
  have at_ : ∀ (j : Nat) (k : Int), j < n → endAt t ((j : Int) + k * n) = ig t (j : Int) + k * n := fun j k hj => by
    have := endAt_lap t (j : Int) k (by omega)
    rw [hl] at this
    rw [this, endAt_nat (by omega)]
  unfold sig
  rw [ei]
  by_cases c1 : nxP n g = i
  · rw [if_pos c1, if_neg (by omega), if_pos (by omega)]
    by_cases c : g + 1 < n
    · have en : nxP n g = g + 1 := by unfold nxP; rw [if_pos c]
      have es : shP n g = 0 := by unfold shP; rw [if_pos c]
      rw [es, show p - 1 = (g : Int) + p / n * n by omega, at_ g _ hg]; omega
    · have en : nxP n g = 0 := by unfold nxP; rw [if_neg c]
      have es : shP n g = n := by unfold shP; rw [if_neg c]
      rw [es, show p - 1 = (g : Int) + (p / n - 1) * n by rw [Int.sub_mul]; omega, at_ g _ hg, Int.sub_mul]; omega
  · rw [if_neg c1]
    by_cases c2 : g = i
    · rw [if_pos c2, if_pos (by omega)]
      by_cases c : g + 1 < n
      · have en : nxP n g = g + 1 := by unfold nxP; rw [if_pos c]
        have es : shP n g = 0 := by unfold shP; rw [if_pos c]
        rw [es, en, show p + 1 = ((g + 1 : Nat) : Int) + p / n * n by omega, at_ (g + 1) _ c]; omega
      · have en : nxP n g = 0 := by unfold nxP; rw [if_neg c]
        have es : shP n g = n := by unfold shP; rw [if_neg c]
        rw [es, en, show p + 1 = ((0 : Nat) : Int) + (p / n + 1) * n by rw [Int.add_mul]; omega, at_ 0 _ (by omega), Int.add_mul]; omega
    · rw [if_neg c2, if_neg (by omega), if_neg (by omega)]
      have := at_ i (p / n) hi
      rw [← exx] at this
      exact this.symm
/-- the persons at the places, and what remains of the outcome -/
structure PlanAt (n : Nat) (o ok t : List Int) : Prop where
  outK : Out n ok
  outT : Out n t
  rel : ∀ p : Int, endAt ok p = endAt o (endAt t p)
  pas : ∀ p q : Int, p < q → endAt t q < endAt t p → endAt ok p < endAt ok q
theorem endAt_iota {n : Nat} (h : 0 < n) (p : Int) : endAt (iota n) p = p := by
  obtain ⟨i, hi, ei, exx⟩ := unroll n h p
  unfold endAt
  rw [iota_len, ei, ig_iota hi]
  exact exx.symm
theorem PlanAt.start {n : Nat} {o : List Int} (O : Out n o) (h : 0 < n) : PlanAt n o o (iota n) := ⟨O, out_iota n, fun p => by rw [endAt_iota h], fun p q hpq hlt => by rw [endAt_iota h, endAt_iota h] at hlt; omega⟩
def firstG (n : Nat) (o : List Int) (g : Nat) : Prop := ig o (nxP n g : Nat) + shP n g < ig o (g : Int)
theorem PlanAt.step {n : Nat} {o ok t : List Int} (W : PlanAt n o ok t) (h2 : 2 ≤ n) {g : Nat} (hg : g < n) (hf : firstG n ok g) : PlanAt n o (swapT ok g) (swapT t g) ∧ passE t g = true := by
  have lk := W.outK.len
  have lt := W.outT.len
  have fg : endAt ok ((g : Int) + 1) < endAt ok (g : Int) := by rw [endAt_nat (by omega), endAt_next (by omega) (by omega), lk]; exact hf
  have pg : endAt t (g : Int) ≤ endAt t ((g : Int) + 1) := by
    rcases Int.lt_or_le (endAt t ((g : Int) + 1)) (endAt t (g : Int)) with h | h
    · have := W.pas g (g + 1) (by omega) h; omega
    · exact h
  refine ⟨⟨W.outK.swap h2 hg, W.outT.swap h2 hg, fun p => ?_, fun p q hpq hlt => ?_⟩, ?_⟩
  · rw [endAt_swap lk h2 hg, endAt_swap lt h2 hg]; exact W.rel _
  · rw [endAt_swap lt h2 hg, endAt_swap lt h2 hg] at hlt
    rw [endAt_swap lk h2 hg, endAt_swap lk h2 hg]
    by_cases hc : p % (n : Int) = g ∧ q = p + 1
    · obtain ⟨h1, rfl⟩ := hc
      obtain ⟨i, hi, ei, exx⟩ := unroll n (by omega) p
      have hig : i = g := by omega
      subst hig
      have hne := nxP_ne h2 hg
      have hx := (nx_iff h2 hg p).mpr h1
      have s1 : sig n i p = p + 1 := by unfold sig; rw [if_pos h1]
      have s2 : sig n i (p + 1) = p := by unfold sig; rw [if_neg (by omega), if_pos hx]; omega
      rw [s1, s2]
      have e1 := endAt_lap ok (i : Int) (p / n) (by omega)
      have e2 := endAt_lap ok ((i : Int) + 1) (p / n) (by omega)
      rw [lk, ← exx] at e1
      rw [lk, show (i : Int) + 1 + p / n * n = p + 1 by omega] at e2
      omega
    · exact W.pas _ _ (sig_lt h2 hg hpq hc) hlt
  · unfold passE
    rw [endAt_nat (by omega), endAt_next (by omega) (by omega)] at pg
    exact decide_eq_true pg
theorem PlanAt.done {n : Nat} {o t : List Int} (O : Out n o) (h : 0 < n) (W : PlanAt n o (iota n) t) : t = invO o := by
  have lt := W.outT.len
  refine ig_ext (by rw [lt, invO_len, O.len]) fun i hi => ?_
  have e := W.rel i
  rw [endAt_iota h] at e
  have := O.end_inv h (endAt t (i : Int))
  rw [← e, endAt_nat hi] at this
  rw [← this, endAt_nat (by rw [invO_len, O.len]; omega)]
def PosT (r t : List Int) : Prop := ∀ p q : Int, p < q → endAt t q < endAt t p → rkP r (endAt t p) < rkP r (endAt t q)
theorem rkP_lap (r : List Int) (x k : Int) : rkP r (x + k * r.length) = rkP r x := by
  unfold rkP; rw [Int.add_mul_emod_self_right]
theorem passT_end {n : Nat} {r t : List Int} (hl : t.length = n) (h2 : 2 ≤ n) {g : Nat} (hg : g < n) : passT r t g = decide (rkP r (endAt t ((g : Int) + 1)) < rkP r (endAt t (g : Int))) := by
  unfold passT
  rw [endAt_nat (by omega), endAt_next (by omega) (by omega)]
theorem PosT.call {n : Nat} {r t : List Int} (hr : r.length = n) (hl : t.length = n) (h2 : 2 ≤ n) {g : Nat} (hg : g < n) (P : PosT r t) : PosT r (callT r t g) := by
  unfold callT
  by_cases hp : passT r t g = true
  · rw [if_pos hp]
    rw [passT_end hl h2 hg] at hp
    have hp := of_decide_eq_true hp
    intro p q hpq hlt
    rw [endAt_swap hl h2 hg, endAt_swap hl h2 hg] at hlt ⊢
    by_cases hc : p % (n : Int) = g ∧ q = p + 1
    · obtain ⟨h1, rfl⟩ := hc
      obtain ⟨i, hi, ei, exx⟩ := unroll n (by omega) p
      have hig : i = g := by omega
      subst hig
      have hx := (nx_iff h2 hg p).mpr h1
      have hne := nxP_ne h2 hg
      have s1 : sig n i p = p + 1 := by unfold sig; rw [if_pos h1]
      have s2 : sig n i (p + 1) = p := by unfold sig; rw [if_neg (by omega), if_pos hx]; omega
      rw [s1, s2]
      have e1 := endAt_lap t (i : Int) (p / n) (by omega)
      have e2 := endAt_lap t ((i : Int) + 1) (p / n) (by omega)
      rw [hl, ← exx] at e1
      rw [hl, show (i : Int) + 1 + p / n * n = p + 1 by omega] at e2
      rw [e1, e2, ← hr, rkP_lap, rkP_lap]
      exact hp
    · exact P _ _ (sig_lt h2 hg hpq hc) hlt
  · rw [if_neg hp]; exact P
/-- l lists the places that the person of a place passes -/
structure PB (o : List Int) (a : Int) (l : List Int) : Prop where
  asc : l.Pairwise (· < ·)
  mem : ∀ q, q ∈ l ↔ a < q ∧ endAt o q < endAt o a
theorem lt_nodup {l : List Int} (h : l.Pairwise (· < ·)) : l.Nodup := h.imp fun h => by omega
theorem PB.uniq {o : List Int} {a : Int} {l m : List Int} (h1 : PB o a l) (h2 : PB o a m) : l = m :=
  sorted_ints (ns := m) ((List.perm_ext_iff_of_nodup (lt_nodup h1.asc) (lt_nodup h2.asc)).mpr fun q => by rw [h1.mem, h2.mem]) (h1.asc.imp fun h => by omega) (List.Perm.refl _) (h2.asc.imp fun h => by omega)
/-- found so far: all that begin less than s behind, but for whole laps -/
structure Pby (n : Nat) (o : List Int) (a : Nat) (B s : Nat) (acc : List Int) : Prop where
  nd : acc.Nodup
  mem : ∀ q, q ∈ acc ↔ (a < q ∧ endAt o q < endAt o a) ∧ (q - a) % (n : Int) < s
  len : acc.length ≤ s * (2 * B)
structure Pin (n : Nat) (o : List Int) (a : Nat) (B s k : Nat) (acc : List Int) : Prop where
  nd : acc.Nodup
  mem : ∀ q, q ∈ acc ↔ ((a < q ∧ endAt o q < endAt o a) ∧ (q - a) % (n : Int) < s) ∨ ∃ j : Nat, j < k ∧ q = a + s + j * n
  low : ∀ j : Nat, j < k → endAt o (a + s + j * n) < endAt o a
  len : acc.length ≤ s * (2 * B) + k
theorem end_lap {n : Nat} {o : List Int} (O : Out n o) (h : 0 < n) (x : Int) (j : Nat) : endAt o (x + j * n) = endAt o x + j * n := by
  have := endAt_lap o x j (by rw [O.len]; exact h)
  rw [O.len] at this; exact this
theorem end_low {n B : Nat} {o : List Int} (O : Out n o) (h : 0 < n) (hb : ∀ x ∈ o, x.natAbs ≤ B) {x : Int} (hx : 0 ≤ x) : -(B : Int) ≤ endAt o x := by
  obtain ⟨i, hi, ei, exx⟩ := unroll n h x
  have m := hb (ig o (i : Int)) (ig_mem ⟨by omega, by rw [O.len]; omega⟩)
  have hd : 0 ≤ x / (n : Int) := Int.ediv_nonneg hx (by omega)
  have : 0 ≤ x / (n : Int) * n := Int.mul_nonneg hd (by omega)
  unfold endAt
  rw [O.len, ei]
  omega
theorem Pin.start {n B s a : Nat} {o acc : List Int} (W : Pby n o a B s acc) : Pin n o a B s 0 acc :=
  ⟨W.nd, fun q => by rw [W.mem]; exact ⟨fun h => .inl h, fun h => h.elim id fun ⟨j, hj, _⟩ => by omega⟩, fun j hj => by omega, by have := W.len; omega⟩
theorem mod_step {n s j : Nat} {a : Int} (hs : s < n) : (a + s + j * n - a) % (n : Int) = s := by
  rw [show a + s + j * n - a = (s : Int) + j * n by omega, Int.add_mul_emod_self_right, Int.emod_eq_of_lt (by omega) (by omega)]
theorem Pin.step {n B s k a : Nat} {o acc : List Int} (hs : s < n) (W : Pin n o a B s k acc) (hlt : endAt o (a + s + k * n) < endAt o a) : Pin n o a B s (k + 1) (acc ++ [(a : Int) + s + k * n]) := by
  have hn : (0 : Int) < n := by omega
  have fresh : (a : Int) + s + k * n ∉ acc := fun h => by
    rcases (W.mem _).mp h with ⟨_, h⟩ | ⟨j, hj, e⟩
    · rw [mod_step hs] at h; omega
    · have h2 : (k : Int) * n = j * n := by omega
      have := Int.eq_of_mul_eq_mul_right (by omega) h2
      omega
  refine ⟨?_, fun q => ?_, fun j hj => ?_, by rw [List.length_append, List.length_singleton]; have := W.len; omega⟩
  · rw [List.nodup_append]
    exact ⟨W.nd, by simp, fun x hx y hy e => fresh (by rw [List.mem_singleton.mp hy] at e; rw [← e]; exact hx)⟩
  · rw [List.mem_append, List.mem_singleton, W.mem]
    constructor
    · rintro ((h | ⟨j, hj, e⟩) | e)
      · exact .inl h
      · exact .inr ⟨j, by omega, e⟩
      · exact .inr ⟨k, by omega, e⟩
    · rintro (h | ⟨j, hj, e⟩)
      · exact .inl (.inl h)
      · by_cases hjk : j = k
        · subst hjk; exact .inr e
        · exact .inl (.inr ⟨j, by omega, e⟩)
  · by_cases hjk : j = k
    · subst hjk; exact hlt
    · exact W.low j (by omega)
theorem Pin.many {n B s k a : Nat} {o acc : List Int} (O : Out n o) (h1 : 2 ≤ n) (ha : a < n) (hb : ∀ x ∈ o, x.natAbs ≤ B) (W : Pin n o a B s k acc) : k ≤ 2 * B := by
  by_cases hk : k = 0
  · omega
  · have h := W.low (k - 1) (by omega)
    rw [end_lap O (by omega)] at h
    have l := end_low O (by omega) hb (x := (a : Int) + s) (by omega)
    have u := hb (ig o (a : Int)) (ig_mem ⟨by omega, by rw [O.len]; omega⟩)
    rw [endAt_nat (by rw [O.len]; exact ha)] at h
    have p : (((k - 1 : Nat) : Int)) * 1 ≤ ((k - 1 : Nat) : Int) * n := Int.mul_le_mul_of_nonneg_left (by omega) (by omega)
    omega
theorem Pin.done {n B s k a : Nat} {o acc : List Int} (O : Out n o) (h1 : 2 ≤ n) (ha : a < n) (hb : ∀ x ∈ o, x.natAbs ≤ B) (hs0 : 0 < s) (hs : s < n) (W : Pin n o a B s k acc) (hge : ¬ endAt o (a + s + k * n) < endAt o a) : Pby n o a B (s + 1) acc := by
  refine ⟨W.nd, fun q => ?_, by have := W.len; have := W.many O h1 ha hb; rw [Nat.add_mul]; omega⟩
  rw [W.mem]
  constructor
  · rintro (⟨h, hm⟩ | ⟨j, hj, rfl⟩)
    · exact ⟨h, by omega⟩
    · have : 0 ≤ (j : Int) * n := Int.mul_nonneg (by omega) (by omega)
      exact ⟨⟨by omega, W.low j hj⟩, by rw [mod_step hs]; omega⟩
  · rintro ⟨h, hm⟩
    by_cases hms : (q - a) % (n : Int) = s
    · refine .inr ?_
      obtain ⟨i, hi, ei, exx⟩ := unroll n (by omega) (q - a)
      have hd : 0 ≤ (q - (a : Int)) / (n : Int) := Int.ediv_nonneg (by omega) (by omega)
      obtain ⟨j, hj⟩ := Int.eq_ofNat_of_zero_le hd
      have eq : q = a + s + j * n := by rw [hj] at exx; omega
      refine ⟨j, ?_, eq⟩
      rcases Nat.lt_or_ge j k with hjk | hjk
      · exact hjk
      · exfalso
        have h2 := h.2
        rw [eq, end_lap O (by omega)] at h2
        rw [end_lap O (by omega)] at hge
        have : (k : Int) * n ≤ j * n := Int.mul_le_mul_of_nonneg_right (by omega) (by omega)
        omega
    · exact .inl ⟨h, by omega⟩
theorem Pby.all {n B a : Nat} {o acc : List Int} (h : 0 < n) (W : Pby n o a B n acc) (q : Int) : q ∈ acc ↔ a < q ∧ endAt o q < endAt o a := by
  rw [W.mem]
  exact ⟨fun h => h.1, fun h => ⟨h, Int.emod_lt_of_pos _ (by omega)⟩⟩
/-- f a lists the places that the person of a place passes -/
structure PLs (n : Nat) (o : List Int) (ls : List (List Int)) : Prop where
  len : ls.length = n
  at_ : ∀ a : Nat, a < n → PB o a (ls[a]?.getD [])
theorem PLs.uniq {n : Nat} {o : List Int} {ls ms : List (List Int)} (h1 : PLs n o ls) (h2 : PLs n o ms) : ls = ms := by
  refine List.ext_getElem (by rw [h1.len, h2.len]) fun a ha hb => ?_
  have e1 := h1.at_ a (by rw [← h1.len]; exact ha)
  have e2 := h2.at_ a (by rw [← h1.len]; exact ha)
  rw [List.getElem?_eq_getElem ha] at e1
  rw [List.getElem?_eq_getElem hb] at e2
  exact e1.uniq e2
def filt (o : List Int) (a : Int) (k : Nat) : List Int := ((List.range k).map fun i => a + 1 + ((i : Nat) : Int)).filter fun q => decide (endAt o q < endAt o a)
theorem filt_pb {o : List Int} {a : Int} {k : Nat} (h : ∀ q, a < q → endAt o q < endAt o a → q - a - 1 < k) : PB o a (filt o a k) := by
  refine ⟨List.Pairwise.filter _ ?_, fun q => ?_⟩
  · rw [List.pairwise_map]
    exact List.pairwise_lt_range.imp fun h => by omega
  · unfold filt
    rw [List.mem_filter, decide_eq_true_iff, List.mem_map]
    constructor
    · rintro ⟨⟨i, hi, rfl⟩, h2⟩; exact ⟨by omega, h2⟩
    · rintro ⟨h1, h2⟩
      have := h q h1 h2
      exact ⟨⟨(q - a - 1).toNat, List.mem_range.mpr (by omega), by omega⟩, h2⟩
theorem filt_len (o : List Int) (a : Int) (k : Nat) : (filt o a k).length ≤ k := by
  have := List.length_filter_le (fun q => decide (endAt o q < endAt o a)) ((List.range k).map fun i => a + 1 + ((i : Nat) : Int))
  rw [List.length_map, List.length_range] at this
  exact this
/-- how far off those can begin that are passed -/
theorem pass_far {n : Nat} {o : List Int} (O : Out n o) (h : 0 < n) {lo hi : Int} (hb : ∀ x ∈ o, lo ≤ x ∧ x ≤ hi) {a : Nat} (ha : a < n) {q : Int} (h2 : endAt o q < endAt o (a : Int)) : q < hi - lo + n := by
  obtain ⟨i, hi', ei, exx⟩ := unroll n h q
  have m := hb (ig o (i : Int)) (ig_mem ⟨by omega, by rw [O.len]; omega⟩)
  have m2 := hb (ig o (a : Int)) (ig_mem ⟨by omega, by rw [O.len]; omega⟩)
  rw [endAt_nat (by rw [O.len]; exact ha)] at h2
  unfold endAt at h2
  rw [O.len, ei] at h2
  omega
theorem PB.len {n B : Nat} {o : List Int} (O : Out n o) (h : 0 < n) (hb : ∀ x ∈ o, x.natAbs ≤ B) {a : Nat} (ha : a < n) {l : List Int} (W : PB o a l) : l.length ≤ 2 * B + n := by
  have W2 := filt_pb (o := o) (a := a) (k := 2 * B + n) fun q h1 h2 => by
    have := pass_far O h (lo := -(B : Int)) (hi := B) (fun x hx => by have := hb x hx; omega) ha h2
    omega
  rw [W.uniq W2]
  exact filt_len _ _ _
/-! runs turned and mirrored -/
/-- t' is t carried over by f -/
def CJ (f : Int → Int) (t t' : List Int) : Prop := ∀ p, endAt t' (f p) = f (endAt t p)
def sigZ (n : Nat) (c p : Int) : Int := if (p - c) % (n : Int) = 0 then p + 1 else if (p - 1 - c) % (n : Int) = 0 then p - 1 else p
theorem z_iff {n : Nat} {x : Int} : x % (n : Int) = 0 ↔ ∃ k : Int, x = k * n :=
  ⟨fun h => ⟨x / n, by have := Int.emod_add_mul_ediv x n; rw [h] at this; rw [Int.mul_comm]; omega⟩, fun ⟨k, h⟩ => by rw [h]; exact Int.mul_emod_left k n⟩
theorem mod_of {n : Nat} (h0 : 0 < n) (c : Int) : ∃ (g : Nat) (k : Int), g < n ∧ (c % (n : Int)).toNat = g ∧ c = g + k * n := by
  have a := Int.emod_nonneg c (show (n : Int) ≠ 0 by omega)
  have b := Int.emod_lt_of_pos c (show (0 : Int) < n by omega)
  have e := Int.emod_add_mul_ediv c n
  exact ⟨(c % (n : Int)).toNat, c / n, by omega, rfl, by rw [Int.mul_comm]; omega⟩
theorem sig_Z {n : Nat} (h2 : 2 ≤ n) (c p : Int) : sig n (c % (n : Int)).toNat p = sigZ n c p := by
  obtain ⟨g, k, hg, e, ec⟩ := mod_of (n := n) (by omega) c
  rw [e]
  have m : ∀ q : Int, q % (n : Int) = g ↔ (q - c) % (n : Int) = 0 := fun q => by
    have hgm : (g : Int) % n = g := Int.emod_eq_of_lt (by omega) (by omega)
    constructor
    · intro h
      have e := Int.emod_add_mul_ediv q n
      refine z_iff.mpr ⟨q / n - k, ?_⟩
      rw [Int.sub_mul, Int.mul_comm (q / n)]
      omega
    · intro h
      obtain ⟨j, hj⟩ := z_iff.mp h
      have : q = g + (j + k) * n := by rw [Int.add_mul]; omega
      rw [this, Int.add_mul_emod_self_right, hgm]
  have m2 := nx_iff h2 hg (p - 1)
  rw [show p - 1 + 1 = p by omega, m] at m2
  unfold sig sigZ
  have e1 : (p % (n : Int) = g) = ((p - c) % (n : Int) = 0) := propext (m p)
  have e2 : (p % (n : Int) = (nxP n g : Nat)) = ((p - 1 - c) % (n : Int) = 0) := propext m2
  simp only [e1, e2]
theorem pass_Z {n : Nat} {r t : List Int} (hr : r.length = n) (hl : t.length = n) (h2 : 2 ≤ n) (c : Int) : passT r t (c % (n : Int)).toNat = decide (rkP r (endAt t (c + 1)) < rkP r (endAt t c)) := by
  obtain ⟨g, k, hg, e, ec⟩ := mod_of (n := n) (by omega) c
  have a : ∀ x : Int, rkP r (endAt t (x + k * n)) = rkP r (endAt t x) := fun x => by
    have := endAt_lap t x k (by omega)
    rw [hl] at this
    rw [this]
    have := rkP_lap r (endAt t x) k
    rw [hr] at this
    exact this
  rw [e, passT_end hl h2 hg, ec, show (g : Int) + k * n + 1 = ((g : Int) + 1) + k * n by omega, a, a]
theorem call_Z {n : Nat} {r t : List Int} (hr : r.length = n) (hl : t.length = n) (h2 : 2 ≤ n) (c p : Int) : endAt (callT r t (c % (n : Int)).toNat) p = if rkP r (endAt t (c + 1)) < rkP r (endAt t c) then endAt t (sigZ n c p) else endAt t p := by
  obtain ⟨g, k, hg, e, ec⟩ := mod_of (n := n) (by omega) c
  have P := pass_Z hr hl h2 c
  have S := sig_Z h2 c p
  rw [e] at P S ⊢
  unfold callT
  rw [P]
  split
  · rename_i h
    rw [if_pos (of_decide_eq_true h), endAt_swap hl h2 hg, S]
  · rename_i h
    rw [if_neg fun z => h (decide_eq_true z)]
structure CJR (n : Nat) (f s : Int → Int) (r r' : List Int) : Prop where
  hr : r.length = n
  hr' : r'.length = n
  h2 : 2 ≤ n
  ps : ∀ t t' : List Int, t.length = n → t'.length = n → CJ f t t' → ∀ c, rkP r' (endAt t' (s c + 1)) < rkP r' (endAt t' (s c)) ↔ rkP r (endAt t (c + 1)) < rkP r (endAt t c)
  sg : ∀ c p, sigZ n (s c) (f p) = f (sigZ n c p)
theorem CJR.run {n : Nat} {f s : Int → Int} {r r' : List Int} (J : CJR n f s r r') : ∀ (gs t t' : List Int) (k : Int), t.length = n → t'.length = n → (∀ g ∈ gs, 0 ≤ g ∧ g < n) → CJ f t t' → CJ f (runT r gs t) (runT r' (gs.map fun g => s g % (n : Int)) t') ∧ passed r gs t k = passed r' (gs.map fun g => s g % (n : Int)) t' k
  | [], t, t', k, _, _, _, h => ⟨h, rfl⟩
  | g :: gs, t, t', k, hl, hl', hs, h => by
    have h2 := J.h2
    obtain ⟨g0, g1⟩ := hs g (List.mem_cons_self ..)
    have eg : g.toNat = (g % (n : Int)).toNat := by rw [Int.emod_eq_of_lt g0 g1]
    have P := J.ps t t' hl hl' h g
    have hc : CJ f (callT r t g.toNat) (callT r' t' (s g % (n : Int)).toNat) := fun p => by
      rw [eg, call_Z J.hr hl h2, call_Z J.hr' hl' h2]
      by_cases z : rkP r (endAt t (g + 1)) < rkP r (endAt t g)
      · rw [if_pos z, if_pos (P.mpr z), J.sg, h]
      · rw [if_neg z, if_neg fun y => z (P.mp y), h]
    have hp : passT r t g.toNat = passT r' t' (s g % (n : Int)).toNat := by
      rw [eg, pass_Z J.hr hl h2, pass_Z J.hr' hl' h2]
      exact decide_eq_decide.mpr P.symm
    have i := fun k => CJR.run J gs (callT r t g.toNat) (callT r' t' (s g % (n : Int)).toNat) k (by rw [callT_len]; exact hl) (by rw [callT_len]; exact hl') (fun x hx => hs x (List.mem_cons_of_mem _ hx)) hc
    refine ⟨(i k).1, ?_⟩
    rw [List.map_cons, passed, passed, hp, (i (k + 1)).2]
/-! ### the outcomes -/
/-! ### the crossings -/
/-! a run goes on from the ring that another has led to -/
theorem rkP_moveR {n : Nat} {r t : List Int} (hr : r.length = n) (ht : t.length = n) (h0 : 0 < n) (x : Int) : rkP (moveR r t) x = rkP r (endAt t x) := by
  have hx0 := Int.emod_nonneg x (show (n : Int) ≠ 0 by omega)
  have hx1 := Int.emod_lt_of_pos x (show (0 : Int) < n by omega)
  obtain ⟨i, hi⟩ := Int.eq_ofNat_of_zero_le hx0
  unfold endAt
  rw [ht, hi]
  have := rkP_lap r (ig t (i : Int)) (x / n)
  rw [hr] at this
  rw [this]
  show ig (moveR r t) (x % (moveR r t).length) = _
  rw [moveR_len, ht, hi, ig_moveR (by omega)]
/-! rates -/
def mnN (f : Nat → Int) : Nat → Int
  | 0 => f 0
  | k + 1 => min (mnN f k) (f (k + 1))
theorem mnN_spec (f : Nat → Int) : ∀ k, (∀ b, b ≤ k → mnN f k ≤ f b) ∧ ∃ b, b ≤ k ∧ mnN f k = f b
  | 0 => ⟨fun b hb => by rw [show b = 0 by omega]; exact Int.le_refl _, 0, Nat.le_refl _, rfl⟩
  | k + 1 => by
    obtain ⟨h1, b, hb, e⟩ := mnN_spec f k
    show (∀ b, b ≤ k + 1 → min (mnN f k) (f (k + 1)) ≤ f b) ∧ ∃ b, b ≤ k + 1 ∧ min (mnN f k) (f (k + 1)) = f b
    refine ⟨fun b hb => ?_, ?_⟩
    · by_cases z : b = k + 1
      · subst z; omega
      · have := h1 b (by omega); omega
    · by_cases z : mnN f k ≤ f (k + 1)
      · exact ⟨b, by omega, by omega⟩
      · exact ⟨k + 1, by omega, by omega⟩
/-- the least sums of k values that end at a gap -/
def dvS (n : Nat) (gs : List Int) (c : Nat) : Nat → Nat → Int
  | 0, _ => 0
  | k + 1, e => mnN (fun b => dvS n gs c k b + valC n gs c (b : Int) (e : Int)) (n - 1)
theorem dvS_mp {n : Nat} (h0 : 0 < n) (gs : List Int) (c : Nat) : MpB n (fun b e => valC n gs c (b : Int) (e : Int)) (dvS n gs c) := fun k e he => by
  obtain ⟨h1, b, hb, eb⟩ := mnN_spec (fun b => dvS n gs c k b + valC n gs c (b : Int) (e : Int)) (n - 1)
  exact ⟨fun b hb => h1 b (by omega), b, by omega, eb⟩
theorem MpB.scale {n : Nat} {A F : Nat → Nat → Int} (h : MpB n A F) {p q : Int} (hq : 0 < q) : MpB n (fun b e => q * A b e - p) (fun k e => q * F k e - p * k) := fun k e he => by
  obtain ⟨h1, b, hb, eb⟩ := h k e he
  have em : p * ((k + 1 : Nat) : Int) = p * k + p := by rw [show ((k + 1 : Nat) : Int) = (k : Int) + 1 by omega, Int.mul_add, Int.mul_one]
  refine ⟨fun b hb => ?_, b, hb, ?_⟩
  · have := Int.mul_le_mul_of_nonneg_left (h1 b hb) (show 0 ≤ q by omega)
    rw [Int.mul_add] at this
    dsimp only
    rw [em]; omega
  · dsimp only
    rw [em, eb, Int.mul_add]; omega
/-- a fraction in lowest terms: the mean of the values of many repetitions -/
structure RateOk (n : Nat) (gs : List Int) (c : Nat) (p q : Int) : Prop where
  pos : 0 < q
  low : Int.gcd p q = 1
  lim : ∃ B : Int, ∀ K x e : Nat, x < n → e < n → -B ≤ q * valC n (repG K gs) c x e - p * K ∧ q * valC n (repG K gs) c x e - p * K ≤ B
theorem val_succ {n : Nat} (h2 : 2 ≤ n) {c : Nat} (hc : c ≤ n) (gs : List Int) (K x e : Nat) : (∀ b, b < n → valC n (repG (K + 1) gs) c x e ≤ valC n (repG K gs) c x b + valC n gs c b e) ∧ ∃ b, b < n ∧ valC n (repG (K + 1) gs) c x e = valC n (repG K gs) c x b + valC n gs c b e := by
  have h := val_app h2 (c := c) (by omega) (by omega) (repG K gs) gs (x : Int) (e : Int)
  rw [show repG (K + 1) gs = repG K gs ++ gs by rw [repG_add, repG_one]]
  refine ⟨fun b hb => h.1 ⟨b, hb⟩, ?_⟩
  obtain ⟨y, hy⟩ := h.2
  exact ⟨y.val, y.isLt, hy⟩
theorem val_near {n : Nat} (h2 : 2 ≤ n) {c : Nat} (hc : c ≤ n) (gs : List Int) : ∃ C : Int, ∀ K x e : Nat, x < n → e < n → dvS n gs c K e - C ≤ valC n (repG K gs) c x e ∧ valC n (repG K gs) c x e ≤ dvS n gs c K e + C := by
  obtain ⟨L, hL⟩ := fin_low2 (n := n) (m := n) fun x e => valC n (repG 0 gs) c (x : Int) (e : Int)
  obtain ⟨U, hU⟩ := fin_up2 (n := n) (m := n) fun x e => valC n (repG 0 gs) c (x : Int) (e : Int)
  refine ⟨max (-L) U, fun K => ?_⟩
  induction K with
  | zero =>
    intro x e hx he
    have a := hL x hx e he
    have b := hU x hx e he
    have z : dvS n gs c 0 e = 0 := rfl
    rw [z]
    omega
  | succ K ih =>
    intro x e hx he
    obtain ⟨a1, y, hy, a2⟩ := val_succ h2 hc gs K x e
    obtain ⟨b1, b, hb, b2⟩ := dvS_mp (n := n) (by omega) gs c K e he
    have i1 := ih x y hx hy
    have i2 := ih x b hx hb
    have i3 := a1 b hb
    have i4 := b1 y hy
    dsimp only at b2 i4
    omega
/-- the mean of Karp -/
theorem rate_karp {n : Nat} (h2 : 2 ≤ n) {gs : List Int} {c : Nat} (hc : c ≤ n) {p q : Int} (hq : 0 < q) (hg : Int.gcd p q = 1)
    (h1 : ∀ e, e < n → ∃ k, k < n ∧ p * ((n : Int) - k) ≤ q * (dvS n gs c n e - dvS n gs c k e)) (h3 : ∃ e, e < n ∧ ∀ k, k < n → q * (dvS n gs c n e - dvS n gs c k e) ≤ p * ((n : Int) - k)) : RateOk n gs c p q := by
  have M := (dvS_mp (n := n) (by omega) gs c).scale (p := p) hq
  obtain ⟨L, hL⟩ := mp_low M fun e he => by
    obtain ⟨k, hk, h⟩ := h1 e he
    refine ⟨k, hk, ?_⟩
    rw [Int.mul_sub, Int.mul_sub] at h
    omega
  obtain ⟨U, hU⟩ := mp_up M (by
    obtain ⟨e, he, h⟩ := h3
    refine ⟨e, he, fun k hk => ?_⟩
    have := h k hk
    rw [Int.mul_sub, Int.mul_sub] at this
    omega)
  obtain ⟨C, hC⟩ := val_near h2 hc gs
  refine ⟨hq, hg, max (-L) U + q * C, fun K x e hx he => ?_⟩
  obtain ⟨a, b⟩ := hC K x e hx he
  have l := hL K e he
  have u := hU K e he
  have a' := Int.mul_le_mul_of_nonneg_left a (show 0 ≤ q by omega)
  have b' := Int.mul_le_mul_of_nonneg_left b (show 0 ≤ q by omega)
  rw [Int.mul_sub] at a'
  rw [Int.mul_add] at b'
  omega
theorem arch {t B : Int} (h : ∀ j : Nat, (j : Int) * t ≤ B) : t ≤ 0 := by
  refine Int.not_lt.mp fun ht => ?_
  have := h (B.toNat + 1)
  have h2 : ((B.toNat + 1 : Nat) : Int) * 1 ≤ ((B.toNat + 1 : Nat) : Int) * t := Int.mul_le_mul_of_nonneg_left (by omega) (by omega)
  omega
/-- what each gap is crossed by in K repetitions -/
def xrH (n : Nat) (gs : List Int) (H : Int → Int) (K : Nat) (g : Int) : Int := ruH n (repG K gs) H g - H g
theorem xr_add (n : Nat) (gs : List Int) (H : Int → Int) (K L : Nat) {m m' : Int} (h1 : ∀ g, m ≤ xrH n gs H K g) (h2 : ∀ g, m' ≤ xrH n gs H L g) (g : Int) : m + m' ≤ xrH n gs H (K + L) g := by
  have a := ruH_mono (n := n) (a := -m) (repG L gs) (H := H) (J := ruH n (repG K gs) H) (fun g => by have := h1 g; unfold xrH at this; omega) g
  have b := h2 g
  unfold xrH at b ⊢
  rw [repG_add, ruH_app]
  omega
theorem xr_add' (n : Nat) (gs : List Int) (H : Int → Int) (K L : Nat) {m m' : Int} (h1 : ∀ g, xrH n gs H K g ≤ m) (h2 : ∀ g, xrH n gs H L g ≤ m') (g : Int) : xrH n gs H (K + L) g ≤ m + m' := by
  have a := ruH_mono (n := n) (a := m) (repG L gs) (H := ruH n (repG K gs) H) (J := H) (fun g => by have := h1 g; unfold xrH at this; omega) g
  have b := h2 g
  unfold xrH at b ⊢
  rw [repG_add, ruH_app]
  omega
theorem xr_mul (n : Nat) (gs : List Int) (H : Int → Int) (K : Nat) {m : Int} (h1 : ∀ g, m ≤ xrH n gs H K g) : ∀ (j : Nat) (g : Int), (j : Int) * m ≤ xrH n gs H (j * K) g
  | 0, g => by rw [Nat.zero_mul]; unfold xrH; rw [repG_zero]; show (0 : Int) * m ≤ H g - H g; omega
  | j + 1, g => by
    have := xr_add n gs H (j * K) K (xr_mul n gs H K h1 j) h1 g
    rw [Nat.add_mul, Nat.one_mul, show ((j + 1 : Nat) : Int) * m = j * m + m by rw [show ((j + 1 : Nat) : Int) = (j : Int) + 1 by omega, Int.add_mul, Int.one_mul]]
    exact this
theorem xr_mul' (n : Nat) (gs : List Int) (H : Int → Int) (K : Nat) {m : Int} (h1 : ∀ g, xrH n gs H K g ≤ m) : ∀ (j : Nat) (g : Int), xrH n gs H (j * K) g ≤ (j : Int) * m
  | 0, g => by rw [Nat.zero_mul]; unfold xrH; rw [repG_zero]; show H g - H g ≤ (0 : Int) * m; omega
  | j + 1, g => by
    have := xr_add' n gs H (j * K) K (xr_mul' n gs H K h1 j) h1 g
    rw [Nat.add_mul, Nat.one_mul, show ((j + 1 : Nat) : Int) * m = j * m + m by rw [show ((j + 1 : Nat) : Int) = (j : Int) + 1 by omega, Int.add_mul, Int.one_mul]]
    exact this
/-- all gaps are crossed nearly alike -/
theorem xr_near {n : Nat} (h2 : 2 ≤ n) {c : Int} {H : Int → Int} (S : StB H) (L : LpB n c H) (gs : List Int) (K : Nat) (g g' : Int) : xrH n gs H K g' ≤ xrH n gs H K g + n := by
  obtain ⟨i, hi, -, ei⟩ := unroll n (by omega) g
  obtain ⟨j, hj, -, ej⟩ := unroll n (by omega) g'
  have S' := S.ru h2 (repG K gs)
  have L' := L.ru (repG K gs)
  have a1 := L'.laps (i : Int) (g / n)
  have a2 := L.laps (i : Int) (g / n)
  have b1 := L'.laps (j : Int) (g' / n)
  have b2 := L.laps (j : Int) (g' / n)
  rw [← ei] at a1 a2
  rw [← ej] at b1 b2
  have c0 := L 0
  have d0 := (S.far n 0)
  unfold xrH
  rcases Nat.le_total i j with z | z
  · have e1 := S'.far (j - i) i
    have e2 := S.far (j - i) i
    rw [show (i : Int) + ((j - i : Nat) : Int) = j by omega] at e1 e2
    omega
  · have e1 := S'.far (i - j) j
    have e2 := S.far (i - j) j
    rw [show (j : Int) + ((i - j : Nat) : Int) = i by omega] at e1 e2
    omega
theorem xr_lim {n : Nat} (h2 : 2 ≤ n) {c : Nat} (hc : c ≤ n) {H : Int → Int} (S : StB H) (L : LpB n c H) {gs : List Int} {p q : Int} (R : RateOk n gs c p q) : ∃ B : Int, ∀ K : Nat, -B ≤ q * xrH n gs H K 0 - p * K ∧ q * xrH n gs H K 0 - p * K ≤ B := by
  obtain ⟨B, hB⟩ := R.lim
  have hq := R.pos
  obtain ⟨lo, hlo⟩ := fin_low (n := n) fun x => q * H (x : Int)
  refine ⟨max (B - lo + q * H 0) B, fun K => ?_⟩
  have m := val_min (by omega) (by omega) (show (c : Int) ≤ n by omega) S L (repG K gs) 0
  have a := m.1 ⟨0, by omega⟩
  obtain ⟨y, hy⟩ := m.2
  have b0 := hB K 0 0 (by omega) (by omega)
  have by_ := hB K y.val 0 y.isLt (by omega)
  have l := hlo y.val y.isLt
  try dsimp only at a hy l
  have a' := Int.mul_le_mul_of_nonneg_left a (show 0 ≤ q by omega)
  have hy' := congrArg (q * ·) hy
  try dsimp only at hy'
  rw [Int.mul_add] at a' hy'
  unfold xrH
  rw [Int.mul_sub]
  try simp only [Int.natCast_zero, Int.ofNat_zero] at *
  constructor
  · omega
  · omega
/-- the crossings of many repetitions are near the rate -/
theorem xr_rate {n : Nat} (h2 : 2 ≤ n) {c : Nat} (hc : c ≤ n) {H : Int → Int} (S : StB H) (L : LpB n c H) {gs : List Int} {p q : Int} (R : RateOk n gs c p q) (K : Nat) (g : Int) : -(q * n) ≤ q * xrH n gs H K g - p * K ∧ q * xrH n gs H K g - p * K ≤ q * n := by
  obtain ⟨B, hB⟩ := xr_lim h2 hc S L R
  have hq := R.pos
  have mj : ∀ (j : Nat) (a b : Int), (j : Int) * (q * a - b) = q * (j * a) - j * b := fun j a b => by rw [Int.mul_sub, Int.mul_left_comm]
  have lower := arch (t := q * (xrH n gs H K g - n) - p * K) (B := B) fun j => by
    have h1 := xr_mul n gs H K (m := xrH n gs H K g - n) (fun g' => by have := xr_near h2 S L gs K g' g; omega) j 0
    have h3 := (hB (j * K)).2
    have h4 := Int.mul_le_mul_of_nonneg_left h1 (show 0 ≤ q by omega)
    rw [mj, show (j : Int) * (p * K) = p * ((j * K : Nat) : Int) by rw [Int.natCast_mul, Int.mul_left_comm]]
    omega
  have upper := arch (t := p * K - q * (xrH n gs H K g + n)) (B := B) fun j => by
    have h1 := xr_mul' n gs H K (m := xrH n gs H K g + n) (fun g' => xr_near h2 S L gs K g g') j 0
    have h3 := (hB (j * K)).1
    have h4 := Int.mul_le_mul_of_nonneg_left h1 (show 0 ≤ q by omega)
    rw [Int.mul_sub, show (j : Int) * (p * K) = p * ((j * K : Nat) : Int) by rw [Int.natCast_mul, Int.mul_left_comm], Int.mul_left_comm (j : Int) q]
    omega
  rw [Int.mul_sub] at lower
  rw [Int.mul_add] at upper
  omega
/-- levels of rings that are the same -/
theorem hT_same {n : Nat} {r t t' : List Int} (hr : r.length = n) (h0 : 0 < n) (O : Out n t) (O' : Out n t') (b : Int) (h : moveR r t = moveR r t') (g : Int) : hT n r b t g - hT n r b t' g = hT n r b t 0 - hT n r b t' 0 := by
  refine step_const (f := fun g => hT n r b t g - hT n r b t' g) (fun g => ?_) g 0
  have s1 := hT_step hr O.len h0 b g
  have s2 := hT_step hr O'.len h0 b g
  rw [← rkP_moveR hr O.len h0, h, rkP_moveR hr O'.len h0] at s1
  try dsimp only
  omega
/-- a ring that comes again -/
theorem xr_again {n : Nat} (h2 : 2 ≤ n) {c : Nat} (hc : c ≤ n) {H : Int → Int} (S : StB H) (L : LpB n c H) {gs : List Int} {p q d : Int} (R : RateOk n gs c p q) {i P : Nat} (h : ∀ g, ruH n (repG (i + P) gs) H g = ruH n (repG i gs) H g + d) : q * d = p * P := by
  have on : ∀ t : Nat, ∀ g, ruH n (repG (i + t * P) gs) H g = ruH n (repG i gs) H g + t * d := fun t => by
    induction t with
    | zero => intro g; rw [Nat.zero_mul, Nat.add_zero]; show _ = _ + (0 : Int) * d; omega
    | succ t ih =>
      intro g
      have e1 : ruH n (repG P gs) (ruH n (repG (i + t * P) gs) H) = fun g => t * d + ruH n (repG P gs) (ruH n (repG i gs) H) g := by
        rw [← ruH_add]
        congr 1
        funext g
        rw [ih g]; omega
      rw [show i + (t + 1) * P = (i + t * P) + P by rw [Nat.add_mul]; omega, repG_add, ruH_app, e1, ← ruH_app, ← repG_add]
      dsimp only
      rw [h g, show ((t + 1 : Nat) : Int) * d = t * d + d by rw [show ((t + 1 : Nat) : Int) = (t : Int) + 1 by omega, Int.add_mul, Int.one_mul]]
      omega
  have hq := R.pos
  have b0 := xr_rate h2 hc S L R i 0
  have key : ∀ t : Nat, -(2 * (q * n)) ≤ (t : Int) * (q * d - p * P) ∧ (t : Int) * (q * d - p * P) ≤ 2 * (q * n) := fun t => by
    have b1 := xr_rate h2 hc S L R (i + t * P) 0
    have e : xrH n gs H (i + t * P) 0 = xrH n gs H i 0 + t * d := by unfold xrH; rw [on t]; omega
    rw [e, Int.mul_add, show p * ((i + t * P : Nat) : Int) = p * i + (t : Int) * (p * P) by rw [Int.natCast_add, Int.mul_add, Int.natCast_mul, Int.mul_left_comm], Int.mul_left_comm q] at b1
    rw [Int.mul_sub]
    omega
  have k1 := arch (t := q * d - p * P) fun t => (key t).2
  have k2 := arch (t := -(q * d - p * P)) (B := 2 * (q * n)) fun t => by have := (key t).1; rw [Int.mul_neg]; omega
  omega
/-! how great values are -/
theorem ru_bound {n : Nat} (h2 : 2 ≤ n) : ∀ (gs : List Int) {H : Int → Int}, StB H → ∀ g, H g ≤ ruH n gs H g ∧ ruH n gs H g ≤ H g + gs.length
  | [], H, _, g => ⟨Int.le_refl _, by show H g ≤ H g + 0; omega⟩
  | k :: gs, H, S, g => by
    have i := ru_bound h2 gs (S.st h2 k) g
    have a := S g
    have b := S (g + 1)
    rw [show g + 1 - 1 = g by omega] at b
    have st : H g ≤ stH n k H g ∧ stH n k H g ≤ H g + 1 := by
      unfold stH
      split <;> omega
    show H g ≤ ruH n gs (stH n k H) g ∧ ruH n gs (stH n k H) g ≤ H g + ((gs.length + 1 : Nat) : Int)
    omega
theorem val_abs {n : Nat} (h2 : 2 ≤ n) {c : Nat} (hc : c ≤ n) (gs : List Int) {x e : Nat} (hx : x < n) (he : e < n) : (valC n gs c x e).natAbs ≤ 2 * n + gs.length := by
  have b := ru_bound h2 gs (blF_stB (n := n) (by omega) (c := c) (by omega) (by omega) x) e
  have s := blF_self (n := n) (by omega) (c := c) (by omega) x
  have S := blF_stB (n := n) (by omega) (c := c) (by omega) (by omega) x
  have bl : (blF n c x e).natAbs ≤ n := by
    rcases Nat.le_total x e with z | z
    · have f := S.far (e - x) x
      rw [show (x : Int) + ((e - x : Nat) : Int) = e by omega, s] at f
      omega
    · have f := S.far (x - e) e
      rw [show (e : Int) + ((x - e : Nat) : Int) = x by omega, s] at f
      omega
  unfold valC
  omega
theorem dvS_abs {n : Nat} (h2 : 2 ≤ n) {c : Nat} (hc : c ≤ n) (gs : List Int) : ∀ (k e : Nat), e < n → (dvS n gs c k e).natAbs ≤ k * (2 * n + gs.length)
  | 0, e, _ => by show (0 : Int).natAbs ≤ _; omega
  | k + 1, e, he => by
    obtain ⟨-, b, hb, eb⟩ := dvS_mp (n := n) (by omega) gs c k e he
    have i := dvS_abs h2 hc gs k b hb
    have v := val_abs h2 hc gs hb he
    dsimp only at eb
    rw [Nat.add_mul, Nat.one_mul]
    omega
/-! no strong persons, or strong ones alone -/
theorem ru_fix {n : Nat} {H : Int → Int} (h : ∀ k, stH n k H = H) : ∀ gs, ruH n gs H = H
  | [] => rfl
  | k :: gs => by show ruH n gs (stH n k H) = H; rw [h k]; exact ru_fix h gs
theorem rate_none {n : Nat} (h2 : 2 ≤ n) (gs : List Int) : RateOk n gs 0 0 1 := by
  have e : ∀ x : Int, blF n 0 x = fun _ => 0 := fun x => by
    funext g
    have := Int.emod_lt_of_pos (g - x) (show (0 : Int) < n by omega)
    unfold blF
    rw [Int.mul_zero]
    omega
  refine ⟨by omega, rfl, 0, fun K x e' _ _ => ?_⟩
  unfold valC
  rw [show ((0 : Nat) : Int) = 0 from rfl, e, ru_fix fun k => by
    funext g; unfold stH; dsimp only; split <;> omega]
  omega
theorem rate_all {n : Nat} (h2 : 2 ≤ n) (gs : List Int) : RateOk n gs n 0 1 := by
  have e : ∀ x : Int, blF n n x = fun g => x - g := fun x => by
    funext g
    have r0 := Int.emod_nonneg (g - x) (show (n : Int) ≠ 0 by omega)
    have d := Int.emod_add_mul_ediv (g - x) n
    unfold blF
    rw [Int.mul_comm] at d
    omega
  refine ⟨by omega, rfl, n, fun K x e' hx he => ?_⟩
  unfold valC
  rw [e, ru_fix fun k => by funext g; unfold stH; dsimp only; split <;> omega]
  omega
/-! fractions -/
def frD (x : Int × Int) : D := .tup [.int x.1, .int x.2]
/-! fractions in order -/
structure FrB (x : Int × Int) : Prop where
  pos : 0 < x.2
  b1 : x.1.natAbs < 2 ^ 1000
  b2 : x.2.natAbs < 2 ^ 1000
theorem mulB {i j : Int} (h1 : i.natAbs < 2 ^ 1000) (h2 : j.natAbs < 2 ^ 1000) : DL.MulOk i j := .inr (by
  have a := log2_nice (k := 1000) (by decide) h1
  have b := log2_nice (k := 1000) (by decide) h2
  show _ < 1000000
  omega)
theorem frle_trans {a b c : Int × Int} (ha : 0 < a.2) (hb : 0 < b.2) (hc : 0 < c.2) (h1 : a.1 * b.2 ≤ b.1 * a.2) (h2 : b.1 * c.2 ≤ c.1 * b.2) : a.1 * c.2 ≤ c.1 * a.2 := by
  have e1 := Int.mul_le_mul_of_nonneg_right h1 (show 0 ≤ c.2 by omega)
  have e2 := Int.mul_le_mul_of_nonneg_right h2 (show 0 ≤ a.2 by omega)
  refine Int.le_of_mul_le_mul_right ?_ hb
  rw [Int.mul_right_comm a.1, Int.mul_right_comm c.1]
  have e3 : b.1 * a.2 * c.2 = b.1 * c.2 * a.2 := Int.mul_right_comm ..
  omega
/-! mean laps -/
theorem dvd_cop {a b c : Int} (h : a ∣ b * c) (g : Int.gcd b a = 1) : a ∣ c := by
  have h1 : a.natAbs ∣ b.natAbs * c.natAbs := by rw [← Int.natAbs_mul]; exact Int.natAbs_dvd_natAbs.mpr h
  have g1 : Nat.Coprime a.natAbs b.natAbs := by
    show Nat.gcd a.natAbs b.natAbs = 1
    rw [Nat.gcd_comm]; exact g
  exact Int.natAbs_dvd_natAbs.mp (Nat.Coprime.dvd_of_dvd_mul_left g1 h1)
theorem frac_uniq {p q p' q' : Int} (h0 : 0 < q) (h0' : 0 < q') (g : Int.gcd p q = 1) (g' : Int.gcd p' q' = 1) (e : p * q' = p' * q) : p = p' ∧ q = q' := by
  have d1 : q ∣ q' := by
    have : q ∣ p * q' := ⟨p', by rw [e, Int.mul_comm]⟩
    exact dvd_cop this g
  have d2 : q' ∣ q := by
    have : q' ∣ p' * q := ⟨p, by rw [← e, Int.mul_comm]⟩
    exact dvd_cop this g'
  have eq : q = q' := Int.dvd_antisymm (by omega) (by omega) d1 d2
  subst eq
  exact ⟨Int.eq_of_mul_eq_mul_right (by omega) e, rfl⟩
theorem RateOk.uniq {n : Nat} {gs : List Int} {c : Nat} {p q p' q' : Int} (h0 : 0 < n) (h : RateOk n gs c p q) (h' : RateOk n gs c p' q') : p = p' ∧ q = q' := by
  obtain ⟨B, hB⟩ := h.lim
  obtain ⟨B', hB'⟩ := h'.lim
  have hq := h.pos
  have hq' := h'.pos
  have key : ∀ K : Nat, (K : Int) * (p * q' - p' * q) ≤ q' * B + q * B' ∧ (K : Int) * (p' * q - p * q') ≤ q' * B + q * B' := fun K => by
    obtain ⟨a1, a2⟩ := hB K 0 0 h0 h0
    obtain ⟨b1, b2⟩ := hB' K 0 0 h0 h0
    generalize valC n (repG K gs) c (0 : Nat) (0 : Nat) = V at *
    have c1 := Int.mul_le_mul_of_nonneg_left a1 (show 0 ≤ q' by omega)
    have c2 := Int.mul_le_mul_of_nonneg_left a2 (show 0 ≤ q' by omega)
    have c3 := Int.mul_le_mul_of_nonneg_left b1 (show 0 ≤ q by omega)
    have c4 := Int.mul_le_mul_of_nonneg_left b2 (show 0 ≤ q by omega)
    constructor
    · have e : (K : Int) * (p * q' - p' * q) = q * (q' * V - p' * K) - q' * (q * V - p * K) := by grind
      rw [e]
      rw [Int.mul_neg] at c1
      omega
    · have e : (K : Int) * (p' * q - p * q') = q' * (q * V - p * K) - q * (q' * V - p' * K) := by grind
      rw [e]
      rw [Int.mul_neg] at c3
      omega
  have k1 := arch fun K => (key K).1
  have k2 := arch fun K => (key K).2
  exact frac_uniq hq hq' h.low h'.low (by omega)
open Classical in
noncomputable def rateF (n : Nat) (gs : List Int) (c : Nat) : Int × Int := if h : ∃ x : Int × Int, RateOk n gs c x.1 x.2 then h.choose else (0, 1)
theorem rateF_eq {n : Nat} (h0 : 0 < n) {gs : List Int} {c : Nat} {x : Int × Int} (h : RateOk n gs c x.1 x.2) : rateF n gs c = x := by
  have he : ∃ x : Int × Int, RateOk n gs c x.1 x.2 := ⟨x, h⟩
  unfold rateF
  rw [dif_pos he]
  obtain ⟨a, b⟩ := RateOk.uniq h0 he.choose_spec h
  exact Prod.ext a b
/-- a fraction in lowest terms -/
def frF (a b : Int) : Int × Int := (a / Int.gcd a b, b / Int.gcd a b)
theorem frF_eq {a b : Int} (hb : 0 < b) {x : Int × Int} (h0 : 0 < x.2) (hg : Int.gcd x.1 x.2 = 1) (he : x.1 * b = a * x.2) : x = frF a b := by
  have hgp : 0 < Int.gcd a b := Int.gcd_pos_of_ne_zero_right a (by omega)
  have hc : Int.gcd (a / (Int.gcd a b : Int)) (b / (Int.gcd a b : Int)) = 1 := Int.gcd_ediv_gcd_ediv_gcd hgp
  have d1 : a / (Int.gcd a b : Int) * Int.gcd a b = a := Int.ediv_mul_cancel (Int.gcd_dvd_left ..)
  have d2 : b / (Int.gcd a b : Int) * Int.gcd a b = b := Int.ediv_mul_cancel (Int.gcd_dvd_right ..)
  unfold frF
  generalize a / (Int.gcd a b : Int) = u at *
  generalize b / (Int.gcd a b : Int) = v at *
  generalize Int.gcd a b = g at *
  have hv : 0 < v := by
    refine Int.not_le.mp fun z => ?_
    have := Int.mul_nonpos_of_nonpos_of_nonneg z (show (0 : Int) ≤ g by omega)
    omega
  obtain ⟨e1, e2⟩ := frac_uniq h0 hv hg hc (by
    refine Int.eq_of_mul_eq_mul_right (show (g : Int) ≠ 0 by omega) ?_
    have : x.1 * (v * g) = (u * g) * x.2 := by rw [d1, d2]; exact he
    grind)
  exact Prod.ext e1 e2
/-- how many are stronger -/
def gtN (r : List Int) (t : Int) : Nat := (r.filter fun x => decide (t < x)).length
noncomputable def lapF (n : Nat) (gs r : List Int) (t : Int) : Int × Int :=
  frF ((rateF n gs (gtN r t + r.count t)).1 * (rateF n gs (gtN r t)).2 - (rateF n gs (gtN r t)).1 * (rateF n gs (gtN r t + r.count t)).2) ((rateF n gs (gtN r t + r.count t)).2 * (rateF n gs (gtN r t)).2 * r.count t)
theorem gt_count : ∀ (r : List Int) (t : Int), gtN r t + r.count t ≤ r.length
  | [], _ => Nat.le_refl _
  | x :: r, t => by
    have := gt_count r t
    unfold gtN at *
    rw [List.filter_cons, List.count_cons, List.length_cons]
    by_cases h : t < x
    · rw [if_pos (decide_eq_true h), if_neg (by simp; omega), List.length_cons]; omega
    · rw [if_neg (by simpa using h)]
      split <;> omega
theorem frF_ok {a b : Int} (hb : 0 < b) : 0 < (frF a b).2 ∧ Int.gcd (frF a b).1 (frF a b).2 = 1 ∧ (frF a b).1 * b = a * (frF a b).2 := by
  have hgp : 0 < Int.gcd a b := Int.gcd_pos_of_ne_zero_right a (by omega)
  have hc : Int.gcd (a / (Int.gcd a b : Int)) (b / (Int.gcd a b : Int)) = 1 := Int.gcd_ediv_gcd_ediv_gcd hgp
  have d1 : a / (Int.gcd a b : Int) * Int.gcd a b = a := Int.ediv_mul_cancel (Int.gcd_dvd_left ..)
  have d2 : b / (Int.gcd a b : Int) * Int.gcd a b = b := Int.ediv_mul_cancel (Int.gcd_dvd_right ..)
  unfold frF
  dsimp only
  generalize a / (Int.gcd a b : Int) = u at *
  generalize b / (Int.gcd a b : Int) = v at *
  generalize Int.gcd a b = g at *
  have hv : 0 < v := by
    refine Int.not_le.mp fun z => ?_
    have := Int.mul_nonpos_of_nonpos_of_nonneg z (show (0 : Int) ≤ g by omega)
    omega
  exact ⟨hv, hc, by rw [← d1, ← d2]; grind⟩
def qR (x : Int × Int) : Rat := (x.1 : Rat) / (x.2 : Rat)
theorem rat_ne {a : Int} (h : 0 < a) : (a : Rat) ≠ 0 := fun e => by
  have : a = 0 := Rat.intCast_inj.mp (by rw [e]; rfl)
  omega
theorem frF_rat {a b : Int} (hb : 0 < b) : qR (frF a b) = (a : Rat) / (b : Rat) := by
  obtain ⟨h1, -, h3⟩ := frF_ok (a := a) hb
  have e1 := rat_ne hb
  have e2 := rat_ne h1
  have e3 : ((frF a b).1 : Rat) * (b : Rat) = (a : Rat) * ((frF a b).2 : Rat) := by rw [← Rat.intCast_mul, ← Rat.intCast_mul, h3]
  unfold qR
  grind
/-- what is known of the rates that a person's laps ask for -/
def LpOk (n : Nat) (gs r : List Int) (t : Int) : Prop := RateOk n gs (gtN r t) (rateF n gs (gtN r t)).1 (rateF n gs (gtN r t)).2 ∧ RateOk n gs (gtN r t + r.count t) (rateF n gs (gtN r t + r.count t)).1 (rateF n gs (gtN r t + r.count t)).2 ∧ 0 < r.count t
theorem LpOk.den {n : Nat} {gs r : List Int} {t : Int} (h : LpOk n gs r t) : 0 < (rateF n gs (gtN r t + r.count t)).2 * (rateF n gs (gtN r t)).2 * r.count t :=
  Int.mul_pos (Int.mul_pos h.2.1.pos h.1.pos) (by have := h.2.2; omega)
theorem LpOk.rat {n : Nat} {gs r : List Int} {t : Int} (h : LpOk n gs r t) : ((r.count t : Nat) : Rat) * qR (lapF n gs r t) = qR (rateF n gs (gtN r t + r.count t)) - qR (rateF n gs (gtN r t)) := by
  unfold lapF
  rw [frF_rat h.den]
  have e1 := rat_ne h.1.pos
  have e2 := rat_ne h.2.1.pos
  have e3 := rat_ne (a := (r.count t : Int)) (by have := h.2.2; omega)
  rw [Rat.intCast_mul, Rat.intCast_mul, Rat.intCast_sub, Rat.intCast_mul, Rat.intCast_mul]
  unfold qR
  have e4 : (((r.count t : Nat) : Int) : Rat) = ((r.count t : Nat) : Rat) := by rfl
  rw [e4] at e3 ⊢
  generalize ((r.count t : Nat) : Rat) = c at *
  grind
/-! ranks and crossings after each number of repetitions -/
/-! the rates rise by ever less -/
theorem conc_ru {n : Nat} : ∀ (gs : List Int) {A B C : Int → Int} {M : Int}, (∀ g, A g + C g ≤ 2 * B g + M) → ∀ g, ruH n gs A g + ruH n gs C g ≤ 2 * ruH n gs B g + M
  | [], _, _, _, _, h => h
  | k :: gs, A, B, C, M, h => conc_ru gs (A := stH n k A) (B := stH n k B) (C := stH n k C) fun g => by
    have h1 := h (g - 1)
    have h2 := h (g + 1)
    have h3 := h g
    unfold stH
    split <;> omega
theorem per_shift {n : Nat} {F : Int → Int} (hp : ∀ g, F (g + n) = F g) : ∀ (k : Nat) (g : Int), F (g + k * n) = F g ∧ F (g - k * n) = F g
  | 0, g => by simp
  | k + 1, g => by
    obtain ⟨h1, h2⟩ := per_shift hp k g
    have e1 : g + ((k + 1 : Nat) : Int) * n = (g + k * n) + n := by push_cast; rw [Int.add_mul, Int.one_mul]; omega
    have e2 : g - ((k + 1 : Nat) : Int) * n + n = g - k * n := by push_cast; rw [Int.add_mul, Int.one_mul]; omega
    exact ⟨by rw [e1, hp, h1], by rw [← hp, e2, h2]⟩
theorem fin_bound (F : Int → Int) : ∀ n : Nat, ∃ M, ∀ i : Nat, i < n → F i ≤ M
  | 0 => ⟨0, fun i h => absurd h (by omega)⟩
  | n + 1 => by
    obtain ⟨M, hM⟩ := fin_bound F n
    refine ⟨max M (F n), fun i hi => ?_⟩
    by_cases h : i < n
    · have := hM i h; omega
    · obtain rfl : i = n := by omega
      omega
theorem per_bound {n : Nat} (h0 : 0 < n) {F : Int → Int} (hp : ∀ g, F (g + n) = F g) : ∃ M, ∀ g, F g ≤ M := by
  obtain ⟨M, hM⟩ := fin_bound F n
  refine ⟨M, fun g => ?_⟩
  have e := Int.emod_add_mul_ediv g n
  have r0 := Int.emod_nonneg g (show (n : Int) ≠ 0 by omega)
  have r1 := Int.emod_lt_of_pos g (show 0 < (n : Int) by omega)
  have key : F g = F (g % n) := by
    rcases Int.le_total 0 (g / n) with z | z
    · have := (per_shift hp (g / n).toNat (g % n)).1
      rw [show ((g / n).toNat : Int) = g / n by omega, Int.mul_comm, e] at this
      exact this
    · have := (per_shift hp (-(g / n)).toNat (g % n)).2
      rw [show ((-(g / n)).toNat : Int) = -(g / n) by omega, Int.neg_mul, Int.sub_neg, Int.mul_comm, e] at this
      exact this
  rw [key, show g % n = ((g % n).toNat : Int) by omega]
  exact hM _ (by omega)
def vK (n : Nat) (gs : List Int) (c K : Nat) : Int := valC n (repG K gs) c (0 : Nat) (0 : Nat)
theorem conc_val {n : Nat} (h0 : 0 < n) (gs : List Int) {c : Nat} (c1 : 1 ≤ c) : ∃ M, ∀ K, vK n gs (c - 1) K + vK n gs (c + 1) K ≤ 2 * vK n gs c K + M := by
  have hl := fun c : Nat => blF_lap h0 (c : Int) ((0 : Nat) : Int)
  obtain ⟨M, hM⟩ := per_bound h0 (F := fun g => blF n ((c - 1 : Nat) : Int) ((0 : Nat) : Int) g + blF n ((c + 1 : Nat) : Int) ((0 : Nat) : Int) g - 2 * blF n (c : Int) ((0 : Nat) : Int) g) (fun g => by
    have a1 := hl (c - 1) g
    have a2 := hl (c + 1) g
    have a3 := hl c g
    rw [a1, a2, a3]
    omega)
  exact ⟨M, fun K => conc_ru (repG K gs) (fun g => by have := hM g; omega) (0 : Int)⟩
theorem conc_all {n : Nat} (h0 : 0 < n) (gs : List Int) : ∀ m : Nat, ∃ M : Int, 0 ≤ M ∧ ∀ c K : Nat, 1 ≤ c → c < m → vK n gs (c - 1) K + vK n gs (c + 1) K ≤ 2 * vK n gs c K + M
  | 0 => ⟨0, by omega, fun c K h1 h2 => absurd h2 (by omega)⟩
  | m + 1 => by
    obtain ⟨M, h0', hM⟩ := conc_all h0 gs m
    by_cases hm : 1 ≤ m
    · obtain ⟨M2, hM2⟩ := conc_val h0 gs hm
      refine ⟨max M M2, by omega, fun c K h1 h2 => ?_⟩
      by_cases h : c < m
      · have := hM c K h1 h; omega
      · obtain rfl : c = m := by omega
        have := hM2 K; omega
    · exact ⟨M, h0', fun c K h1 h2 => absurd h2 (by omega)⟩
/-- steps: each at most the one before, but for M -/
theorem step_down {W : Nat → Int} {n : Nat} {M : Int} (h : ∀ c, 1 ≤ c → c < n → W (c - 1) + W (c + 1) ≤ 2 * W c + M) : ∀ (k i : Nat), i + k < n → W (i + k + 1) - W (i + k) ≤ W (i + 1) - W i + k * M
  | 0, i, _ => by simp
  | k + 1, i, hk => by
    have ih := step_down h k i (by omega)
    have := h (i + k + 1) (by omega) (by omega)
    rw [show i + k + 1 - 1 = i + k by omega] at this
    rw [show i + (k + 1) = i + k + 1 by omega]
    push_cast
    rw [Int.add_mul, Int.one_mul]
    omega
theorem step_sum {W : Nat → Int} {n : Nat} {M : Int} (h0 : 0 ≤ M) (h : ∀ c, 1 ≤ c → c < n → W (c - 1) + W (c + 1) ≤ 2 * W c + M) {i s : Nat} (his : i ≤ s) : ∀ m : Nat, s + m ≤ n → W (s + m) - W s ≤ m * (W (i + 1) - W i + n * M)
  | 0, _ => by simp
  | m + 1, hm => by
    have ih := step_sum h0 h his m (by omega)
    have d := step_down h (s + m - i) i (by omega)
    rw [show i + (s + m - i) = s + m by omega] at d
    have e : ((s + m - i : Nat) : Int) * M ≤ n * M := Int.mul_le_mul_of_nonneg_right (by omega) h0
    rw [show s + (m + 1) = s + m + 1 by omega]
    push_cast
    rw [Int.add_mul, Int.one_mul]
    omega
theorem step_two {W : Nat → Int} {n : Nat} {M : Int} (h0 : 0 ≤ M) (h : ∀ c, 1 ≤ c → c < n → W (c - 1) + W (c + 1) ≤ 2 * W c + M) {s2 m2 : Nat} (hn : s2 + m2 ≤ n) (s1 : Nat) : ∀ m1 : Nat, s1 + m1 ≤ s2 → m1 * (W (s2 + m2) - W s2) ≤ m2 * (W (s1 + m1) - W s1) + m1 * (m2 * (n * M))
  | 0, _ => by simp
  | m1 + 1, hm => by
    have ih := step_two h0 h hn s1 m1 (by omega)
    have d := step_sum h0 h (i := s1 + m1) (s := s2) (by omega) m2 hn
    rw [Int.mul_add] at d
    rw [show s1 + (m1 + 1) = s1 + m1 + 1 by omega]
    have e1 : ((m2 : Nat) : Int) * (W (s1 + m1 + 1) - W s1) = m2 * (W (s1 + m1) - W s1) + m2 * (W (s1 + m1 + 1) - W (s1 + m1)) := by grind
    rw [e1]
    push_cast
    rw [Int.add_mul, Int.add_mul, Int.one_mul, Int.one_mul]
    omega
theorem archR {t B : Rat} (h : ∀ j : Nat, (j : Rat) * t ≤ B) : t ≤ 0 := by
  refine Rat.not_lt.mp fun ht => ?_
  have hb := Rat.le_ceil (x := B / t)
  have hj := h ((B / t).ceil.toNat + 1)
  have e : B = (B / t) * t := by
    have : t ≠ 0 := fun z => by rw [z] at ht; exact absurd ht (by decide)
    grind
  have c1 : ((B / t).ceil : Rat) ≤ (((B / t).ceil.toNat : Nat) : Rat) := by
    have : (B / t).ceil ≤ (((B / t).ceil.toNat : Nat) : Int) := Int.self_le_toNat _
    have := Rat.intCast_le_intCast.mpr this
    exact this
  have c2 : (((B / t).ceil.toNat + 1 : Nat) : Rat) = (((B / t).ceil.toNat : Nat) : Rat) + 1 := by push_cast; rfl
  rw [c2] at hj
  have m := Rat.mul_le_mul_of_nonneg_right (Rat.le_trans hb c1) (Rat.le_of_lt ht)
  rw [← e] at m
  grind
/-- the values of K repetitions lie near K times the rate -/
theorem rate_near {n : Nat} (h0 : 0 < n) {gs : List Int} {c : Nat} {x : Int × Int} (R : RateOk n gs c x.1 x.2) : ∃ B : Rat, ∀ K : Nat, -B ≤ (vK n gs c K : Rat) - (K : Rat) * qR x ∧ (vK n gs c K : Rat) - (K : Rat) * qR x ≤ B := by
  obtain ⟨B, hB⟩ := R.lim
  have hq := R.pos
  have hqR : (0 : Rat) < (x.2 : Rat) := by
    have := Rat.intCast_lt_intCast.mpr hq
    exact this
  have hq0 := rat_ne hq
  refine ⟨(B : Rat) / (x.2 : Rat), fun K => ?_⟩
  obtain ⟨h1, h2⟩ := hB K 0 0 h0 h0
  have h1 := Rat.intCast_le_intCast.mpr h1
  have h2 := Rat.intCast_le_intCast.mpr h2
  simp only [Rat.intCast_sub, Rat.intCast_mul, Rat.intCast_neg] at h1 h2
  have eK : (((K : Nat) : Int) : Rat) = ((K : Nat) : Rat) := rfl
  rw [eK] at h1 h2
  have ev : valC n (repG K gs) c ((0 : Nat) : Int) ((0 : Nat) : Int) = vK n gs c K := rfl
  rw [ev] at h1 h2
  have e : (vK n gs c K : Rat) - (K : Rat) * qR x = ((x.2 : Rat) * (vK n gs c K : Rat) - (x.1 : Rat) * (K : Rat)) / (x.2 : Rat) := by unfold qR; grind
  have key : ∀ y z : Rat, y ≤ z → y / (x.2 : Rat) ≤ z / (x.2 : Rat) := fun y z h => by
    rw [Rat.div_def, Rat.div_def]
    exact Rat.mul_le_mul_of_nonneg_right h (Rat.le_of_lt (Rat.inv_pos.mpr hqR))
  rw [e]
  have k1 := key _ _ h1
  have k2 := key _ _ h2
  have en : -(B : Rat) / (x.2 : Rat) = -((B : Rat) / (x.2 : Rat)) := by grind
  rw [en] at k1
  exact ⟨k1, k2⟩
theorem qR_le {x y : Int × Int} (hx : 0 < x.2) (hy : 0 < y.2) (h : qR x ≤ qR y) : x.1 * y.2 ≤ y.1 * x.2 := by
  have ex := rat_ne hx
  have ey := rat_ne hy
  have px : (0 : Rat) ≤ (x.2 : Rat) := Rat.intCast_le_intCast.mpr (show (0 : Int) ≤ x.2 by omega)
  have py : (0 : Rat) ≤ (y.2 : Rat) := Rat.intCast_le_intCast.mpr (show (0 : Int) ≤ y.2 by omega)
  have m := Rat.mul_le_mul_of_nonneg_right (Rat.mul_le_mul_of_nonneg_right h px) py
  have e1 : qR x * (x.2 : Rat) * (y.2 : Rat) = ((x.1 * y.2 : Int) : Rat) := by unfold qR; rw [Rat.intCast_mul]; grind
  have e2 : qR y * (x.2 : Rat) * (y.2 : Rat) = ((y.1 * x.2 : Int) : Rat) := by unfold qR; rw [Rat.intCast_mul]; grind
  rw [e1, e2] at m
  exact Rat.intCast_le_intCast.mp m
/-- twice the rate is at least those of one less and one more -/
theorem rate_conc {n : Nat} (h0 : 0 < n) {gs : List Int} {c : Nat} (c1 : 1 ≤ c) {x y z : Int × Int} (hx : RateOk n gs (c - 1) x.1 x.2) (hy : RateOk n gs c y.1 y.2) (hz : RateOk n gs (c + 1) z.1 z.2) : (x.1 * z.2 + z.1 * x.2) * y.2 ≤ 2 * y.1 * x.2 * z.2 := by
  obtain ⟨M, hM⟩ := conc_val h0 gs c1
  obtain ⟨B1, h1⟩ := rate_near h0 hx
  obtain ⟨B2, h2⟩ := rate_near h0 hy
  obtain ⟨B3, h3⟩ := rate_near h0 hz
  have key : qR x + qR z - 2 * qR y ≤ 0 := archR (B := (M : Rat) + B1 + B3 + 2 * B2) fun K => by
    have m := Rat.intCast_le_intCast.mpr (hM K)
    simp only [Rat.intCast_add, Rat.intCast_mul] at m
    obtain ⟨a1, a2⟩ := h1 K
    obtain ⟨b1, b2⟩ := h2 K
    obtain ⟨c1, c2⟩ := h3 K
    have e : (K : Rat) * (qR x + qR z - 2 * qR y) = (K : Rat) * qR x + (K : Rat) * qR z - 2 * ((K : Rat) * qR y) := by grind
    rw [e]
    have two : ((2 : Int) : Rat) = 2 := rfl
    rw [two] at m
    grind
  have h := qR_le (x := (x.1 * z.2 + z.1 * x.2, x.2 * z.2)) (y := (2 * y.1, y.2)) (Int.mul_pos hx.pos hz.pos) hy.pos (by
    have e1 : qR (x.1 * z.2 + z.1 * x.2, x.2 * z.2) = qR x + qR z := by
      have ex := rat_ne hx.pos
      have ez := rat_ne hz.pos
      unfold qR
      rw [Rat.intCast_add, Rat.intCast_mul, Rat.intCast_mul, Rat.intCast_mul]
      grind
    have e2 : qR (2 * y.1, y.2) = 2 * qR y := by
      unfold qR
      rw [Rat.intCast_mul]
      have two : ((2 : Int) : Rat) = 2 := rfl
      rw [two]
      grind
    rw [e1, e2]
    grind)
  dsimp only at h
  rw [Int.mul_assoc (2 * y.1)]
  exact h
theorem gt_le {t u : Int} (h : u < t) : ∀ r : List Int, gtN r t + r.count t ≤ gtN r u
  | [] => Nat.le_refl _
  | x :: r => by
    have ih := gt_le h r
    unfold gtN at *
    rw [List.filter_cons, List.filter_cons, List.count_cons]
    by_cases h1 : t < x
    · rw [if_pos (decide_eq_true h1), if_pos (decide_eq_true (show u < x by omega)), if_neg (by simp; omega), List.length_cons, List.length_cons]; omega
    · rw [if_neg (by simpa using h1)]
      by_cases h2 : x = t
      · subst h2
        rw [if_pos (by simp), if_pos (decide_eq_true h), List.length_cons]; omega
      · rw [if_neg (by simpa using h2)]
        split
        · rw [List.length_cons]; omega
        · omega
/-- nobody has fewer mean laps than a weaker one -/
theorem lap_order {n : Nat} (h0 : 0 < n) {gs r : List Int} (hr : r.length = n) {t u : Int} (ht : LpOk n gs r t) (hu : LpOk n gs r u) (htu : u ≤ t) : (lapF n gs r u).1 * (lapF n gs r t).2 ≤ (lapF n gs r t).1 * (lapF n gs r u).2 := by
  by_cases e : t = u
  · subst e; exact Int.le_refl _
  have hlt : u < t := by omega
  have hg := gt_le hlt r
  have hgu := gt_count r u
  have pt : 0 < (lapF n gs r t).2 := (frF_ok ht.den).1
  have pu : 0 < (lapF n gs r u).2 := (frF_ok hu.den).1
  refine qR_le pu pt ?_
  have rt := ht.rat
  have ru := hu.rat
  obtain ⟨M, hM0, hM⟩ := conc_all h0 gs n
  obtain ⟨B1, h1⟩ := rate_near h0 ht.1
  obtain ⟨B2, h2⟩ := rate_near h0 ht.2.1
  obtain ⟨B3, h3⟩ := rate_near h0 hu.1
  obtain ⟨B4, h4⟩ := rate_near h0 hu.2.1
  have ct := ht.2.2
  have cu := hu.2.2
  have key : ((r.count t : Nat) : Rat) * (qR (rateF n gs (gtN r u + r.count u)) - qR (rateF n gs (gtN r u))) - ((r.count u : Nat) : Rat) * (qR (rateF n gs (gtN r t + r.count t)) - qR (rateF n gs (gtN r t))) ≤ 0 := archR (B := (((r.count t : Nat) : Int) * (((r.count u : Nat) : Int) * ((n : Int) * M)) : Int) + ((r.count t : Nat) : Rat) * (B3 + B4) + ((r.count u : Nat) : Rat) * (B1 + B2)) fun K => by
    have m := step_two (W := fun c => vK n gs c K) hM0 (fun c c1 c2 => hM c K c1 c2) (s2 := gtN r u) (m2 := r.count u) (by omega) (gtN r t) (r.count t) hg
    have m := Rat.intCast_le_intCast.mpr m
    simp only [Rat.intCast_add, Rat.intCast_mul, Rat.intCast_sub] at m ⊢
    obtain ⟨a1, a2⟩ := h1 K
    obtain ⟨b1, b2⟩ := h2 K
    obtain ⟨c1, c2⟩ := h3 K
    obtain ⟨d1, d2⟩ := h4 K
    have et : (((r.count t : Nat) : Int) : Rat) = ((r.count t : Nat) : Rat) := rfl
    have eu : (((r.count u : Nat) : Int) : Rat) = ((r.count u : Nat) : Rat) := rfl
    rw [et, eu] at m ⊢
    have nt : (0 : Rat) ≤ ((r.count t : Nat) : Rat) := Rat.natCast_nonneg
    have nu : (0 : Rat) ≤ ((r.count u : Nat) : Rat) := Rat.natCast_nonneg
    generalize ((r.count t : Nat) : Rat) = x at *
    generalize ((r.count u : Nat) : Rat) = y at *
    generalize (vK n gs (gtN r u + r.count u) K : Rat) = V4 at *
    generalize (vK n gs (gtN r u) K : Rat) = V3 at *
    generalize (vK n gs (gtN r t + r.count t) K : Rat) = V2 at *
    generalize (vK n gs (gtN r t) K : Rat) = V1 at *
    generalize qR (rateF n gs (gtN r u + r.count u)) = R4 at *
    generalize qR (rateF n gs (gtN r u)) = R3 at *
    generalize qR (rateF n gs (gtN r t + r.count t)) = R2 at *
    generalize qR (rateF n gs (gtN r t)) = R1 at *
    have u1 : (K : Rat) * R4 - (K : Rat) * R3 ≤ V4 - V3 + (B3 + B4) := by grind
    have u2 : V2 - V1 ≤ (K : Rat) * R2 - (K : Rat) * R1 + (B1 + B2) := by grind
    have w1 := Rat.mul_le_mul_of_nonneg_left u1 nt
    have w2 := Rat.mul_le_mul_of_nonneg_left u2 nu
    have e1 : (K : Rat) * (x * (R4 - R3) - y * (R2 - R1)) = x * ((K : Rat) * R4 - (K : Rat) * R3) - y * ((K : Rat) * R2 - (K : Rat) * R1) := by grind
    have e2 : x * (V4 - V3 + (B3 + B4)) = x * (V4 - V3) + x * (B3 + B4) := by grind
    have e3 : y * ((K : Rat) * R2 - (K : Rat) * R1 + (B1 + B2)) = y * ((K : Rat) * R2 - (K : Rat) * R1) + y * (B1 + B2) := by grind
    rw [e1]
    rw [e2] at w1
    rw [e3] at w2
    generalize x * (V4 - V3) = z1 at *
    generalize y * (V2 - V1) = z2 at *
    generalize x * ((K : Rat) * R4 - (K : Rat) * R3) = z3 at *
    generalize y * ((K : Rat) * R2 - (K : Rat) * R1) = z4 at *
    generalize x * (B3 + B4) = z5 at *
    generalize y * (B1 + B2) = z6 at *
    grind
  rw [← rt, ← ru] at key
  have nt : (0 : Rat) < ((r.count t : Nat) : Rat) := Rat.natCast_pos.mpr ct
  have nu : (0 : Rat) < ((r.count u : Nat) : Rat) := Rat.natCast_pos.mpr cu
  have np : (0 : Rat) < ((r.count t : Nat) : Rat) * ((r.count u : Nat) : Rat) := Rat.mul_pos nt nu
  have e1 : ((r.count t : Nat) : Rat) * (((r.count u : Nat) : Rat) * qR (lapF n gs r u)) - ((r.count u : Nat) : Rat) * (((r.count t : Nat) : Rat) * qR (lapF n gs r t)) = (((r.count t : Nat) : Rat) * ((r.count u : Nat) : Rat)) * (qR (lapF n gs r u) - qR (lapF n gs r t)) := by grind
  rw [e1] at key
  refine Rat.not_lt.mp fun hlt => ?_
  have := Rat.mul_pos np (show (0 : Rat) < qR (lapF n gs r u) - qR (lapF n gs r t) by grind)
  grind
/-! how far those of one rank go between two repetitions with one ring -/
theorem fil_count (r : List Int) (q : Int → Bool) : ((iota r.length).filter fun p => q (ig r p)).length = (r.filter q).length := by
  have e : (iota r.length).map (ig r) = r := by
    refine ig_ext (by rw [List.length_map, iota_len]) fun i hi => ?_
    rw [List.length_map, iota_len] at hi
    rw [ig_map (by rw [iota_len]; exact hi), ig_iota hi]
  have : ((iota r.length).filter fun p => q (ig r p)) = (iota r.length).filter (q ∘ ig r) := rfl
  rw [this]
  conv => rhs; rw [← e, List.filter_map, List.length_map]
theorem st_count (r : List Int) (t : Int) : (stF r t).length = gtN r t + r.count t := by
  unfold stF
  rw [fil_count r fun x => decide (t ≤ x)]
  unfold gtN
  induction r with
  | nil => rfl
  | cons x r ih =>
    rw [List.filter_cons, List.filter_cons, List.count_cons]
    by_cases h1 : t < x
    · rw [if_pos (decide_eq_true (show t ≤ x by omega)), if_pos (decide_eq_true h1), if_neg (by simp; omega), List.length_cons, List.length_cons, ih]; omega
    · by_cases h2 : x = t
      · subst h2; rw [if_pos (by simp), if_neg (by simp), if_pos (by simp), List.length_cons, ih]; omega
      · rw [if_neg (by simp; omega), if_neg (by simpa using h1), if_neg (by simpa using h2), ih, Nat.add_zero]
theorem st_count1 (r : List Int) (t : Int) : (stF r (t + 1)).length = gtN r t := by
  unfold stF
  rw [fil_count r fun x => decide (t + 1 ≤ x)]
  unfold gtN
  rfl
def grpL (n : Nat) (r : List Int) (t : Int) : List Int := (iota n).filter fun p => decide (ig r p = t)
theorem grp_sum {n : Nat} {r : List Int} (hr : r.length = n) (t : Int) (f : Int → Int) : ((grpL n r t).map f).sum = ((stF r t).map f).sum - ((stF r (t + 1)).map f).sum := by
  unfold grpL stF
  rw [sum_filter, sum_filter, sum_filter, hr]
  have : ∀ l : List Int, (l.map fun x => if decide (ig r x = t) = true then f x else 0).sum = (l.map fun x => if decide (t ≤ ig r x) = true then f x else 0).sum - (l.map fun x => if decide (t + 1 ≤ ig r x) = true then f x else 0).sum := fun l => by
    induction l with
    | nil => rfl
    | cons x l ih =>
      rw [List.map_cons, List.map_cons, List.map_cons, List.sum_cons, List.sum_cons, List.sum_cons, ih]
      simp only [decide_eq_true_eq]
      by_cases h1 : ig r x = t
      · rw [if_pos h1, if_pos (by omega), if_neg (by omega)]; omega
      · rw [if_neg h1]
        by_cases h2 : t ≤ ig r x
        · rw [if_pos h2, if_pos (by omega)]; omega
        · rw [if_neg h2, if_neg (by omega)]; omega
  exact this _
theorem grp_len {n : Nat} {r : List Int} (hr : r.length = n) (t : Int) : (grpL n r t).length = r.count t := by
  have h := st_count r t
  have h1 := st_count1 r t
  have g := grp_sum hr t (fun _ => 1)
  have one : ∀ l : List Int, (l.map fun _ => (1 : Int)).sum = l.length := fun l => by
    induction l with
    | nil => rfl
    | cons x l ih => rw [List.map_cons, List.sum_cons, ih, List.length_cons]; omega
  rw [one, one, one] at g
  omega
theorem strong_gone {n : Nat} {r gs : List Int} (hr : r.length = n) (h2 : 2 ≤ n) (hs : Sch n gs) {i P : Nat} (hm : moveR r (runT r (repG i gs) (iota n)) = moveR r (runT r (repG (i + P) gs) (iota n))) (b : Int) {x : Int × Int} (R : RateOk n gs (stF r b).length x.1 x.2) :
    x.2 * (((stF r b).map fun p => ig (invO (runT r (repG (i + P) gs) (iota n))) p - p).sum - ((stF r b).map fun p => ig (invO (runT r (repG i gs) (iota n))) p - p).sum) = n * (x.1 * P) := by
  have h0 : 0 < n := by omega
  have O1 := Out.run h2 r (repG i gs) _ (Sch.rep hs i).mem (out_iota n)
  have O2 := Out.run h2 r (repG (i + P) gs) _ (Sch.rep hs (i + P)).mem (out_iota n)
  have hd := fun g => hT_same hr h0 O2 O1 b hm.symm g
  generalize hdd : hT n r b (runT r (repG (i + P) gs) (iota n)) 0 - hT n r b (runT r (repG i gs) (iota n)) 0 = d at hd
  have hru := fun K => hT_run hr h2 b (repG K gs) (iota n) (iota_len n) (Sch.rep hs K).mem
  have key := xr_again h2 (c := (stF r b).length) (by rw [← hr]; exact stF_len r b) (hT_stB hr (iota_len n) h0 b) (hT_lap hr (out_iota n) h0 b) R (i := i) (P := P) (d := d) (fun g => by
    rw [← hru, ← hru]
    have := hd g
    omega)
  have hc : ∀ g : Int, crS n (invO (runT r (repG (i + P) gs) (iota n))) (stF r b) g = crS n (invO (runT r (repG i gs) (iota n))) (stF r b) g + d := fun g => by
    rw [crS_hT hr O2 h0, crS_hT hr O1 h0]
    have := hd g
    omega
  have s1 := crL_sum h0 (invO (runT r (repG i gs) (iota n))) (stF r b)
  have s2 := crL_sum h0 (invO (runT r (repG (i + P) gs) (iota n))) (stF r b)
  have e : (crL n (invO (runT r (repG (i + P) gs) (iota n))) (stF r b)).sum = (crL n (invO (runT r (repG i gs) (iota n))) (stF r b)).sum + n * d := by
    unfold crL
    have : ∀ l : List Int, (l.map (crS n (invO (runT r (repG (i + P) gs) (iota n))) (stF r b))).sum = (l.map (crS n (invO (runT r (repG i gs) (iota n))) (stF r b))).sum + l.length * d := fun l => by
      induction l with
      | nil => simp
      | cons y l ih =>
        rw [List.map_cons, List.map_cons, List.sum_cons, List.sum_cons, ih, hc, List.length_cons]
        push_cast
        rw [Int.add_mul, Int.one_mul]
        omega
    rw [this, iota_len]
  rw [← s1, ← s2, e, show (crL n (invO (runT r (repG i gs) (iota n))) (stF r b)).sum + n * d - (crL n (invO (runT r (repG i gs) (iota n))) (stF r b)).sum = n * d by omega, ← key]
  grind
theorem lap_gone {n : Nat} {r gs : List Int} (hr : r.length = n) (h2 : 2 ≤ n) (hs : Sch n gs) {i P : Nat} (hm : moveR r (runT r (repG i gs) (iota n)) = moveR r (runT r (repG (i + P) gs) (iota n))) {t : Int} (hL : LpOk n gs r t) :
    ((grpL n r t).map fun p => ig (invO (runT r (repG (i + P) gs) (iota n))) p - ig (invO (runT r (repG i gs) (iota n))) p).sum * (lapF n gs r t).2 = (lapF n gs r t).1 * (P * (grpL n r t).length) * n := by
  have g1 := strong_gone hr h2 hs hm t (x := rateF n gs (gtN r t + r.count t)) (by rw [st_count]; exact hL.2.1)
  have g2 := strong_gone hr h2 hs hm (t + 1) (x := rateF n gs (gtN r t)) (by rw [st_count1]; exact hL.1)
  have e : ((grpL n r t).map fun p => ig (invO (runT r (repG (i + P) gs) (iota n))) p - ig (invO (runT r (repG i gs) (iota n))) p).sum = ((grpL n r t).map fun p => ig (invO (runT r (repG (i + P) gs) (iota n))) p - p).sum - ((grpL n r t).map fun p => ig (invO (runT r (repG i gs) (iota n))) p - p).sum := by
    induction grpL n r t with
    | nil => rfl
    | cons x l ih => rw [List.map_cons, List.map_cons, List.map_cons, List.sum_cons, List.sum_cons, List.sum_cons, ih]; omega
  rw [e, grp_sum hr t, grp_sum hr t, grp_len hr]
  have cr := (frF_ok (a := (rateF n gs (gtN r t + r.count t)).1 * (rateF n gs (gtN r t)).2 - (rateF n gs (gtN r t)).1 * (rateF n gs (gtN r t + r.count t)).2) hL.den).2.2
  have q1 := hL.1.pos
  have q2 := hL.2.1.pos
  have hc := hL.2.2
  unfold lapF
  generalize ((stF r t).map fun p => ig (invO (runT r (repG (i + P) gs) (iota n))) p - p).sum = A2 at *
  generalize ((stF r t).map fun p => ig (invO (runT r (repG i gs) (iota n))) p - p).sum = A1 at *
  generalize ((stF r (t + 1)).map fun p => ig (invO (runT r (repG (i + P) gs) (iota n))) p - p).sum = B2 at *
  generalize ((stF r (t + 1)).map fun p => ig (invO (runT r (repG i gs) (iota n))) p - p).sum = B1 at *
  generalize frF ((rateF n gs (gtN r t + r.count t)).1 * (rateF n gs (gtN r t)).2 - (rateF n gs (gtN r t)).1 * (rateF n gs (gtN r t + r.count t)).2) ((rateF n gs (gtN r t + r.count t)).2 * (rateF n gs (gtN r t)).2 * r.count t) = L at *
  generalize rateF n gs (gtN r t + r.count t) = X at *
  generalize rateF n gs (gtN r t) = Y at *
  have hne : X.2 * Y.2 ≠ 0 := by have := Int.mul_pos q2 q1; omega
  refine Int.eq_of_mul_eq_mul_left hne ?_
  grind
structure LapB (x : Int × Int) : Prop where
  b1 : x.1.natAbs < 2 ^ 220
  pos : 0 < x.2
  b2 : x.2 ≤ 1728
theorem mulW {i j : Int} {a b : Nat} (h1 : i.natAbs < 2 ^ a) (h2 : j.natAbs < 2 ^ b) (ha : 0 < a) (hb : 0 < b) (h : a + b < 1000000) : DL.MulOk i j := .inr (by
  have x := log2_nice ha h1
  have y := log2_nice hb h2
  show _ < 1000000
  omega)
/-! texts of ints -/
theorem cps_app (a b : Str) : (a ++ b).cps.toList = a.cps.toList ++ b.cps.toList := Array.toList_append
def digC (m : Nat) : List Nat := (Nat.toDigits 10 m).map Char.toNat
theorem digC_range {m c : Nat} (h : c ∈ digC m) : 48 ≤ c ∧ c ≤ 57 := by
  obtain ⟨ch, hch, e⟩ := List.mem_map.mp h
  have r := PyProof.Rows.digit_range (Nat.isDigit_of_mem_toDigits (by decide) (by decide) hch)
  rw [← e]; exact r
theorem digC_inj {m k : Nat} (h : digC m = digC k) : m = k := by
  rw [← PySem.W.KIN.val_back m, ← PySem.W.KIN.val_back k]
  exact congrArg _ h
def intC (i : Int) : List Nat := if 0 ≤ i then digC i.toNat else 45 :: digC (-i).toNat
theorem codes_int (i : Int) : (Str.ofString (toString i)).cps.toList = intC i := by
  unfold intC
  by_cases h : 0 ≤ i
  · rw [if_pos h]
    obtain ⟨m, rfl⟩ := Int.eq_ofNat_of_zero_le h
    exact PySem.W.KIN.signs_num m
  · rw [if_neg h, PyProof.Rows.toString_neg (by omega), show 0 - i = (((-i).toNat : Nat) : Int) by omega]
    have e := PySem.W.KIN.signs_num (-i).toNat
    rw [PyProof.Rows.signs_ofString] at e ⊢
    rw [String.toList_append, List.map_append, e]
    rfl
theorem intC_no44 {i : Int} : ∀ c ∈ intC i, c ≠ 44 := fun c hc => by
  unfold intC at hc
  split at hc
  · have := digC_range hc; omega
  · rcases List.mem_cons.mp hc with rfl | hc
    · decide
    · have := digC_range hc; omega
theorem intC_inj {i j : Int} (h : intC i = intC j) : i = j := by
  have neg : ∀ m k : Nat, digC m ≠ 45 :: digC k := fun m k z => by
    have := digC_range (m := m) (c := 45) (by rw [z]; exact List.mem_cons_self ..)
    omega
  unfold intC at h
  split at h
  · split at h
    · have := digC_inj h; omega
    · exact absurd h (neg _ _)
  · split at h
    · exact absurd h.symm (neg _ _)
    · injection h with _ h
      have := digC_inj h; omega
/-- the codes of the texts, with commas between -/
def bodyC : Nat → List (List Nat) → List Nat
  | _, [] => []
  | k, t :: r => (if 0 < k then [44, 32] else []) ++ t ++ bodyC (k + 1) r
theorem textFrom_codes : ∀ (ts : List Str) (k : Nat) (acc : Str), (PySem.textFrom k acc ts).cps.toList = acc.cps.toList ++ bodyC k (ts.map fun t => t.cps.toList)
  | [], _, acc => by simp [PySem.textFrom, bodyC]
  | t :: r, k, acc => by
    have ih := textFrom_codes r (k + 1) (acc ++ (if k > 0 then ", " else "" : String) ++ t)
    rw [PySem.textFrom, ih, cps_app, cps_app, List.map_cons, bodyC]
    by_cases h : 0 < k
    · rw [if_pos h, if_pos h]
      have e : (Str.ofString ", ").cps.toList = [44, 32] := by decide
      rw [e]
      simp only [List.append_assoc]
    · rw [if_neg h, if_neg h]
      have e : (Str.ofString "").cps.toList = [] := by decide
      rw [e]
      simp only [List.append_assoc, List.nil_append, List.append_nil]
theorem cut44 : ∀ {a b x y : List Nat}, (∀ c ∈ a, c ≠ 44) → (∀ c ∈ b, c ≠ 44) → (x = [] ∨ ∃ x', x = 44 :: x') → (y = [] ∨ ∃ y', y = 44 :: y') → a ++ x = b ++ y → a = b ∧ x = y
  | [], [], x, y, _, _, _, _, h => ⟨rfl, h⟩
  | [], c :: b, x, y, _, hb, hx, _, h => by
    rcases hx with rfl | ⟨x', rfl⟩
    · cases h
    · injection h with h _
      exact absurd h.symm (hb c (List.mem_cons_self ..))
  | c :: a, [], x, y, ha, _, _, hy, h => by
    rcases hy with rfl | ⟨y', rfl⟩
    · cases h
    · injection h with h _
      exact absurd h (ha c (List.mem_cons_self ..))
  | c :: a, d :: b, x, y, ha, hb, hx, hy, h => by
    injection h with h1 h2
    obtain ⟨e1, e2⟩ := cut44 (fun z hz => ha z (List.mem_cons_of_mem _ hz)) (fun z hz => hb z (List.mem_cons_of_mem _ hz)) hx hy h2
    exact ⟨by rw [h1, e1], e2⟩
theorem bodyC_head {k : Nat} (hk : 0 < k) (ts : List (List Nat)) : bodyC k ts = [] ∨ ∃ x', bodyC k ts = 44 :: x' := by
  cases ts with
  | nil => exact .inl rfl
  | cons t r => exact .inr ⟨_, by rw [bodyC, if_pos hk]; rfl⟩
theorem bodyC_inj : ∀ {l m : List Int} {k : Nat}, l.length = m.length → bodyC k (l.map intC) = bodyC k (m.map intC) → l = m
  | [], [], _, _, _ => rfl
  | [], _ :: _, _, h, _ => by cases h
  | _ :: _, [], _, h, _ => by cases h
  | i :: l, j :: m, k, hl, h => by
    rw [List.map_cons, List.map_cons, bodyC, bodyC, List.append_assoc, List.append_assoc] at h
    have h := List.append_cancel_left h
    obtain ⟨e1, e2⟩ := cut44 intC_no44 intC_no44 (bodyC_head (Nat.succ_pos _) _) (bodyC_head (Nat.succ_pos _) _) h
    rw [intC_inj e1, bodyC_inj (by simpa using hl) e2]
theorem shown_iL (l : List Int) : (toPy (iL l)).shown.cps.toList = 91 :: (bodyC 0 (l.map intC) ++ [93]) := by
  have e : PyData.shownAll (toPys (l.map D.int)) = l.map fun i => Str.ofString (toString i) := by
    induction l with
    | nil => rfl
    | cons i l ih => rw [List.map_cons, toPys, PyData.shownAll, ih]; rfl
  show (PySem.listText (PyData.shownAll (toPys (l.map D.int)))).cps.toList = _
  unfold PySem.listText
  rw [e, cps_app, textFrom_codes, List.map_map]
  have e1 : (Str.ofString "[").cps.toList = [91] := by decide
  have e2 : (Str.ofString "]").cps.toList = [93] := by decide
  have e3 : (l.map ((fun t => t.cps.toList) ∘ fun i => Str.ofString (toString i))) = l.map intC := List.map_congr_left fun i _ => codes_int i
  rw [e1, e2, e3]
  simp
theorem shown_inj {l m : List Int} (hl : l.length = m.length) (h : (toPy (iL l)).shown = (toPy (iL m)).shown) : l = m := by
  have e : (toPy (iL l)).shown.cps.toList = (toPy (iL m)).shown.cps.toList := by rw [h]
  rw [shown_iL, shown_iL] at e
  injection e with _ e
  exact bodyC_inj hl (List.append_cancel_right e)
def slaw_laps_right : DSp := fun ds Q _ => ∃ (n : Nat) (gs r : List Int), ds = [iL r, iL gs, .lst ((r.map (lapF n gs r)).map frD)] ∧ r.length = n ∧ 2 ≤ n ∧ n ≤ 6 ∧ Sch n gs ∧ gs.length ≤ 100 ∧ (∀ t ∈ r, LpOk n gs r t ∧ LapB (lapF n gs r t)) ∧ (∀ x ∈ r, rkOk x) ∧ Q false (.bl true) []
theorem i_lapsright {n : Nat} {gs r : List Int} {Q : Bool → D → List D → Prop} {E : EdT} (hr : r.length = n) (h1 : 2 ≤ n) (h2 : n ≤ 6) (hs : Sch n gs) (hl : gs.length ≤ 100) (hL : ∀ t ∈ r, LpOk n gs r t ∧ LapB (lapF n gs r t)) (hk : ∀ x ∈ r, rkOk x) (h : Q false (.bl true) []) : slaw_laps_right [iL r, iL gs, .lst ((r.map (lapF n gs r)).map frD)] Q E := ⟨n, gs, r, rfl, hr, h1, h2, hs, hl, hL, hk, h⟩
def txR (r t : List Int) : Str := (toPy (iL (moveR r t))).shown
def knR (n : Nat) (gs r : List Int) (J : List Nat) : List (L2.Key × D) := J.map fun (j : Nat) => (.inr (txR r (runT r (repG j gs) (iota n))), .tup [.int (j : Int), iL (runT r (repG j gs) (iota n))])
theorem look_kn (n : Nat) (gs r : List Int) (key : Str) : ∀ J : List Nat, (lookE (knR n gs r J) (.inr key) = none ∧ ∀ j ∈ J, txR r (runT r (repG j gs) (iota n)) ≠ key) ∨ ∃ j ∈ J, txR r (runT r (repG j gs) (iota n)) = key ∧ lookE (knR n gs r J) (.inr key) = some (.tup [.int (j : Int), iL (runT r (repG j gs) (iota n))])
  | [] => .inl ⟨rfl, fun j h => absurd h List.not_mem_nil⟩
  | j :: J => by
    by_cases e : txR r (runT r (repG j gs) (iota n)) = key
    · refine .inr ⟨j, List.mem_cons_self .., e, ?_⟩
      unfold lookE knR
      rw [List.map_cons, List.find?_cons_of_pos (by rw [e]; exact decide_eq_true rfl)]
      rfl
    · have hl : lookE (knR n gs r (j :: J)) (.inr key) = lookE (knR n gs r J) (.inr key) := by
        unfold lookE knR
        rw [List.map_cons, List.find?_cons_of_neg (by simpa using e)]
      rw [hl]
      rcases look_kn n gs r key J with ⟨a, b⟩ | ⟨m, hm, a, b⟩
      · refine .inl ⟨a, fun x hx => ?_⟩
        rcases List.mem_cons.mp hx with rfl | hx
        · exact e
        · exact b x hx
      · exact .inr ⟨m, List.mem_cons_of_mem _ hm, a, b⟩
theorem put_kn {n : Nat} {gs r : List Int} {J : List Nat} {k : Nat} (h : ∀ j ∈ J, txR r (runT r (repG j gs) (iota n)) ≠ txR r (runT r (repG k gs) (iota n))) : putE (knR n gs r J) (.inr (txR r (runT r (repG k gs) (iota n)))) (.tup [.int (k : Int), iL (runT r (repG k gs) (iota n))]) = knR n gs r (J ++ [k]) := by
  unfold putE
  rw [if_neg]
  · unfold knR; rw [List.map_append]; rfl
  · rw [List.any_eq_true]
    rintro ⟨x, hx, e⟩
    obtain ⟨j, hj, rfl⟩ := List.mem_map.mp hx
    have e := of_decide_eq_true e
    injection e with e
    exact h j hj e
theorem okR_ranks {r : List Int} (h0 : 0 < r.length) (hk : ∀ x ∈ r, rkOk x) {t : List Int} (ht : t.length ≤ 1000) : okR (iL (moveR r t)) = true := by
  refine (NiceD.ints (fun x hx => ?_) (by rw [moveR_len]; omega)).okR
  unfold moveR at hx
  obtain ⟨c, hc, rfl⟩ := List.mem_map.mp hx
  have hm : rkP r c ∈ r := rkP_mem rfl h0 c
  have := hk _ hm
  unfold rkOk at this
  omega
def sCard_size (C : Addr) : DSp := fun ds Q _ => ∃ (n : Nat) (gs : List Int), ds = [cardD C n gs] ∧ Q false (.int n) []
theorem i_Csize {C : Addr} {n : Nat} {gs : List Int} {Q : Bool → D → List D → Prop} {E : EdT} (h : Q false (.int n) []) : sCard_size C [cardD C n gs] Q E := ⟨n, gs, rfl, h⟩
def sis_less : DSp := fun ds Q _ => ∃ x y : Int × Int, ds = [frD x, frD y] ∧ FrB x ∧ FrB y ∧ Q false (.bl (decide (x.1 * y.2 < y.1 * x.2))) []
theorem i_isless {x y : Int × Int} {Q : Bool → D → List D → Prop} {E : EdT} (hx : FrB x) (hy : FrB y) (h : Q false (.bl (decide (x.1 * y.2 < y.1 * x.2))) []) : sis_less [frD x, frD y] Q E := ⟨x, y, rfl, hx, hy, h⟩
def sleast_of : DSp := fun ds Q _ => ∃ l : List (Int × Int), ds = [.lst (l.map frD)] ∧ 0 < l.length ∧ l.length ≤ 1000 ∧ (∀ x ∈ l, FrB x) ∧ ∀ x ∈ l, (∀ y ∈ l, x.1 * y.2 ≤ y.1 * x.2) → Q false (frD x) []
theorem i_leastof {l : List (Int × Int)} {Q : Bool → D → List D → Prop} {E : EdT} (h0 : 0 < l.length) (hl : l.length ≤ 1000) (h1 : ∀ x ∈ l, FrB x) (h : ∀ x ∈ l, (∀ y ∈ l, x.1 * y.2 ≤ y.1 * x.2) → Q false (frD x) []) : sleast_of [.lst (l.map frD)] Q E := ⟨l, rfl, h0, hl, h1, h⟩
def sgreatest_of : DSp := fun ds Q _ => ∃ l : List (Int × Int), ds = [.lst (l.map frD)] ∧ 0 < l.length ∧ l.length ≤ 1000 ∧ (∀ x ∈ l, FrB x) ∧ ∀ x ∈ l, (∀ y ∈ l, y.1 * x.2 ≤ x.1 * y.2) → Q false (frD x) []
theorem i_greatestof {l : List (Int × Int)} {Q : Bool → D → List D → Prop} {E : EdT} (h0 : 0 < l.length) (hl : l.length ≤ 1000) (h1 : ∀ x ∈ l, FrB x) (h : ∀ x ∈ l, (∀ y ∈ l, y.1 * x.2 ≤ x.1 * y.2) → Q false (frD x) []) : sgreatest_of [.lst (l.map frD)] Q E := ⟨l, rfl, h0, hl, h1, h⟩
def scommon_divisor : DSp := fun ds Q _ => ∃ a b : Int, ds = [.int a, .int b] ∧ Q false (.int (Int.gcd a b)) []
theorem i_cdiv {a b : Int} {Q : Bool → D → List D → Prop} {E : EdT} (h : Q false (.int (Int.gcd a b)) []) : scommon_divisor [.int a, .int b] Q E := ⟨a, b, rfl, h⟩
theorem gcd_step {x y : Int} (hx : 0 ≤ x) (hy : 0 < y) : Int.gcd y (x % y) = Int.gcd x y := by
  obtain ⟨a, rfl⟩ := Int.eq_ofNat_of_zero_le hx
  obtain ⟨b, rfl⟩ := Int.eq_ofNat_of_zero_le (show 0 ≤ y by omega)
  rw [← Int.natCast_emod]
  show Nat.gcd b (a % b) = Nat.gcd a b
  rw [Nat.gcd_comm b (a % b), Nat.gcd_comm a b, Nat.gcd_rec b a]
def sfraction : DSp := fun ds Q _ => ∃ a b : Int, ds = [.int a, .int b] ∧ 0 < b ∧ b < 2 ^ 256 ∧ ∀ x : Int × Int, 0 < x.2 → Int.gcd x.1 x.2 = 1 → x.1 * b = a * x.2 → x.2 ≤ b → x.1.natAbs ≤ a.natAbs → Q false (frD x) []
theorem i_frac {a b : Int} {Q : Bool → D → List D → Prop} {E : EdT} (h0 : 0 < b) (hb : b < 2 ^ 256) (h : ∀ x : Int × Int, 0 < x.2 → Int.gcd x.1 x.2 = 1 → x.1 * b = a * x.2 → x.2 ≤ b → x.1.natAbs ≤ a.natAbs → Q false (frD x) []) : sfraction [.int a, .int b] Q E := ⟨a, b, rfl, h0, hb, h⟩
def sCard_value (C : Addr) : DSp := fun ds Q _ => ∃ (n c x e : Nat) (gs : List Int), ds = [cardD C n gs, .int c, .int x, .int e] ∧ 1 ≤ c ∧ c < n ∧ x < n ∧ e < n ∧ Q false (.int (valC n gs c x e)) []
theorem i_Cvalue {C : Addr} {n c x e : Nat} {gs : List Int} {Q : Bool → D → List D → Prop} {E : EdT} (h1 : 1 ≤ c) (h2 : c < n) (h3 : x < n) (h4 : e < n) (h : Q false (.int (valC n gs c x e)) []) : sCard_value C [cardD C n gs, .int c, .int x, .int e] Q E := ⟨n, c, x, e, gs, rfl, h1, h2, h3, h4, h⟩
/-- the least sums of k values, by the gaps where they end -/
def drow (n : Nat) (gs : List Int) (c k : Nat) : List Int := (iota n).map fun e => dvS n gs c k e.toNat
def drows (n : Nat) (gs : List Int) (c m : Nat) : List D := (List.range m).map fun k => iL (drow n gs c k)
theorem drow_len (n : Nat) (gs : List Int) (c k : Nat) : (drow n gs c k).length = n := by unfold drow; rw [List.length_map, iota_len]
theorem ig_drow {n : Nat} (gs : List Int) (c k : Nat) {e : Nat} (he : e < n) : ig (drow n gs c k) (e : Int) = dvS n gs c k e := by
  unfold drow
  rw [ig_map (by rw [iota_len]; exact he), ig_iota he, Int.toNat_natCast]
theorem drows_len (n : Nat) (gs : List Int) (c m : Nat) : (drows n gs c m).length = m := by unfold drows; simp
theorem at_drows {n : Nat} (gs : List Int) (c : Nat) {m k : Nat} (hk : k < m) : atI (drows n gs c m) (k : Int) = some (iL (drow n gs c k)) := by
  unfold atI
  rw [ixN_nat (by rw [drows_len]; exact hk), Option.bind_some]
  unfold drows
  rw [List.getElem?_map, List.getElem?_range hk]; rfl
theorem at_drows1 {n : Nat} (gs : List Int) (c : Nat) {m : Nat} : atI (drows n gs c (m + 1)) (-1) = some (iL (drow n gs c m)) := by
  unfold atI ixN
  rw [drows_len]
  rw [if_neg (by omega), if_pos (by omega)]
  rw [Option.bind_some, show ((-1 : Int) + ((m + 1 : Nat) : Int)).toNat = m by omega]
  unfold drows
  rw [List.getElem?_map, List.getElem?_range (by omega)]; rfl
def sstep_sums (C : Addr) : DSp := fun ds Q _ => ∃ (n c : Nat) (gs : List Int), ds = [cardD C n gs, .int c] ∧ 1 ≤ c ∧ c < n ∧ 2 ≤ n ∧ n ≤ 12 ∧ Q true (.lst (drows n gs c (n + 1))) []
theorem i_ssums {C : Addr} {n c : Nat} {gs : List Int} {Q : Bool → D → List D → Prop} {E : EdT} (h1 : 1 ≤ c) (h2 : c < n) (h3 : 2 ≤ n) (h4 : n ≤ 12) (h : Q true (.lst (drows n gs c (n + 1))) []) : sstep_sums C [cardD C n gs, .int c] Q E := ⟨n, c, gs, rfl, h1, h2, h3, h4, h⟩
def srate (C : Addr) : DSp := fun ds Q _ => ∃ (n c : Nat) (gs : List Int), ds = [cardD C n gs, .int c] ∧ c ≤ n ∧ 2 ≤ n ∧ n ≤ 12 ∧ gs.length ≤ 2 ^ 200 ∧ ∀ x : Int × Int, RateOk n gs c x.1 x.2 → FrB x → x.2 ≤ n → x.1.natAbs < 2 ^ 208 → Q false (frD x) []
theorem i_rate {C : Addr} {n c : Nat} {gs : List Int} {Q : Bool → D → List D → Prop} {E : EdT} (h1 : c ≤ n) (h3 : 2 ≤ n) (h4 : n ≤ 12) (h5 : gs.length ≤ 2 ^ 200) (h : ∀ x : Int × Int, RateOk n gs c x.1 x.2 → FrB x → x.2 ≤ n → x.1.natAbs < 2 ^ 208 → Q false (frD x) []) : srate C [cardD C n gs, .int c] Q E := ⟨n, c, gs, rfl, h1, h3, h4, h5, h⟩
/-- the fractions of one end -/
structure EndOk (n : Nat) (gs : List Int) (c e : Nat) (x : Int × Int) : Prop where
  fr : FrB x
  low : Int.gcd x.1 x.2 = 1
  le : x.2 ≤ n
  one : ∃ k, k < n ∧ x.1 * ((n : Int) - k) = x.2 * (dvS n gs c n e - dvS n gs c k e)
  all : ∀ k, k < n → x.2 * (dvS n gs c n e - dvS n gs c k e) ≤ x.1 * ((n : Int) - k)
  b3 : x.1.natAbs < 2 ^ 208
def slaw_steps_right (C : Addr) : DSp := fun ds Q _ => ∃ (n : Nat) (gs : List Int), ds = [cardD C n gs] ∧ 2 ≤ n ∧ n ≤ 12 ∧ gs.length ≤ 2 ^ 200 ∧ Q false (.bl true) []
theorem i_steps56 {C : Addr} {n : Nat} {gs : List Int} {Q : Bool → D → List D → Prop} {E : EdT} (h1 : 2 ≤ n) (h2 : n ≤ 12) (hl : gs.length ≤ 2 ^ 200) (h : Q false (.bl true) []) : slaw_steps_right C [cardD C n gs] Q E := ⟨n, gs, rfl, h1, h2, hl, h⟩
/-- the rates of the counts up to k -/
noncomputable def rtL (n : Nat) (gs : List Int) (k : Nat) : List D := (List.range k).map fun c => frD (rateF n gs c)
theorem at_rt {n k c : Nat} {gs : List Int} (h : c < k) : atI (rtL n gs k) (c : Int) = some (frD (rateF n gs c)) := by
  unfold rtL
  rw [atI_some (by omega) (by rw [List.length_map, List.length_range]; omega)]; simp
structure RtOk (n : Nat) (gs : List Int) (c : Nat) : Prop where
  ok : RateOk n gs c (rateF n gs c).1 (rateF n gs c).2
  b1 : (rateF n gs c).1.natAbs < 2 ^ 208
  b2 : (rateF n gs c).2.natAbs < 2 ^ 4
def slaw_is_less : DSp := fun ds Q _ => ∃ x y : Int × Int, ds = [frD x, frD y] ∧ LapB x ∧ LapB y ∧ Q false (.bl (decide (x.1 * y.2 < y.1 * x.2))) []
theorem i_lless {x y : Int × Int} {Q : Bool → D → List D → Prop} {E : EdT} (hx : LapB x) (hy : LapB y) (h : Q false (.bl (decide (x.1 * y.2 < y.1 * x.2))) []) : slaw_is_less [frD x, frD y] Q E := ⟨x, y, rfl, hx, hy, h⟩
theorem LapB.mul {x y : Int × Int} (hx : LapB x) (hy : LapB y) : DL.MulOk x.1 y.2 := mulW (a := 220) (b := 12) hx.b1 (by have := hy.b2; have := hy.pos; omega) (by decide) (by decide) (by decide)
def slaw_order_right : DSp := fun ds Q _ => ∃ (n : Nat) (gs r : List Int), ds = [iL r, .lst ((r.map (lapF n gs r)).map frD)] ∧ r.length = n ∧ 2 ≤ n ∧ n ≤ 12 ∧ (∀ t ∈ r, LpOk n gs r t ∧ LapB (lapF n gs r t)) ∧ Q false (.bl true) []
theorem i_order56 {n : Nat} {gs r : List Int} {Q : Bool → D → List D → Prop} {E : EdT} (hr : r.length = n) (h1 : 2 ≤ n) (h2 : n ≤ 12) (hL : ∀ t ∈ r, LpOk n gs r t ∧ LapB (lapF n gs r t)) (h : Q false (.bl true) []) : slaw_order_right [iL r, .lst ((r.map (lapF n gs r)).map frD)] Q E := ⟨n, gs, r, rfl, hr, h1, h2, hL, h⟩
theorem at_lap {r : List Int} (f : Int → Int × Int) {i : Nat} (hi : i < r.length) : atI ((r.map f).map frD) (i : Int) = some (frD (f r[i])) := by
  rw [atI_some (by omega) (by rw [List.length_map, List.length_map]; omega)]; simp
def sRing_ranks (C : Addr) : DSp := fun ds Q _ => ∃ l : List Int, ds = [ringD C l] ∧ Q true (.lst (l.map D.int)) []
theorem i_Rranks {C : Addr} {l : List Int} {Q : Bool → D → List D → Prop} {E : EdT} (h : Q true (.lst (l.map D.int)) []) : sRing_ranks C [ringD C l] Q E := ⟨l, rfl, h⟩
def slap_rates (C C_Ring : Addr) : DSp := fun ds Q _ => ∃ (n : Nat) (gs r : List Int), ds = [cardD C n gs, ringD C_Ring r] ∧ r.length = n ∧ 2 ≤ n ∧ n ≤ 12 ∧ gs.length ≤ 2 ^ 200 ∧ ((∀ t ∈ r, LpOk n gs r t ∧ LapB (lapF n gs r t)) → Q true (.lst ((r.map (lapF n gs r)).map frD)) [])
theorem i_laps {C C_Ring : Addr} {n : Nat} {gs r : List Int} {Q : Bool → D → List D → Prop} {E : EdT} (hr : r.length = n) (h1 : 2 ≤ n) (h2 : n ≤ 12) (hl : gs.length ≤ 2 ^ 200) (h : (∀ t ∈ r, LpOk n gs r t ∧ LapB (lapF n gs r t)) → Q true (.lst ((r.map (lapF n gs r)).map frD)) []) : slap_rates C C_Ring [cardD C n gs, ringD C_Ring r] Q E := ⟨n, gs, r, rfl, hr, h1, h2, hl, h⟩
def oneG (t : Int) : D → Option D
  | .int x => if t < x then some (.int 1) else none
  | _ => none
theorem oneG_len (t : Int) : ∀ l : List Int, ((l.map D.int).filterMap (oneG t)).length = gtN l t
  | [] => rfl
  | x :: l => by
    have ih := oneG_len t l
    unfold gtN at *
    rw [List.map_cons, List.filter_cons]
    by_cases h : t < x
    · rw [List.filterMap_cons_some (show oneG t (.int x) = some (.int 1) from if_pos h), if_pos (decide_eq_true h), List.length_cons, List.length_cons, ih]
    · rw [List.filterMap_cons_none (show oneG t (.int x) = none from if_neg h), if_neg (by simpa using h), ih]
/-- an int that is no truth value -/
def isIntD : D → Bool
  | .int _ => true
  | _ => false
def sis_integer : DSp := fun ds Q _ => ∃ d, ds = [d] ∧ (tyN d).isSome = true ∧ Q false (.bl (isIntD d)) []
theorem i_isint {d : D} {Q : Bool → D → List D → Prop} {E : EdT} (h1 : (tyN d).isSome = true) (h : Q false (.bl (isIntD d)) []) : sis_integer [d] Q E := ⟨d, rfl, h1, h⟩
theorem i_isint1 {i : Int} {Q : Bool → D → List D → Prop} {E : EdT} (h : Q false (.bl true) []) : sis_integer [.int i] Q E := ⟨_, rfl, rfl, h⟩
def btwD (lo hi : Int) : D → Bool
  | .int i => decide (lo ≤ i) && decide (i ≤ hi)
  | _ => false
def sis_between : DSp := fun ds Q _ => ∃ d lo hi, ds = [d, .int lo, .int hi] ∧ (tyN d).isSome = true ∧ Q false (.bl (btwD lo hi d)) []
theorem i_btw {d : D} {lo hi : Int} {Q : Bool → D → List D → Prop} {E : EdT} (h1 : (tyN d).isSome = true) (h : Q false (.bl (btwD lo hi d)) []) : sis_between [d, .int lo, .int hi] Q E := ⟨d, lo, hi, rfl, h1, h⟩
def sis_size : DSp := fun ds Q _ => ∃ d, ds = [d] ∧ (tyN d).isSome = true ∧ Q false (.bl (btwD 2 12 d)) []
theorem i_sizeT {i : Int} {Q : Bool → D → List D → Prop} {E : EdT} (h1 : 2 ≤ i) (h2 : i ≤ 12) (h : Q false (.bl true) []) : sis_size [.int i] Q E := ⟨_, rfl, rfl, by rw [btwD, decide_eq_true h1, decide_eq_true h2]; exact h⟩
def sRing___init__ (C : Addr) : DSp := fun ds Q _ => ∃ l : List Int, ds = [.obj C [] [], .lst (l.map D.int)] ∧ 2 ≤ l.length ∧ l.length ≤ 12 ∧ Q false .non [ringD C l]
theorem i_Rinit {C : Addr} {l : List Int} {Q : Bool → D → List D → Prop} {E : EdT} (h1 : 2 ≤ l.length) (h2 : l.length ≤ 12) (h : Q false .non [ringD C l]) : sRing___init__ C [.obj C [] [], .lst (l.map D.int)] Q E := ⟨l, rfl, h1, h2, h⟩
theorem all_true (ns : List Int) : List.filterMap (fun _ : D => some (D.bl true)) (ns.map D.int) = (List.replicate ns.length true).map D.bl := by
  induction ns with
  | nil => rfl
  | cons x t ih => simp [ih, List.replicate]
theorem rep_true (n : Nat) : (List.replicate n true).all id = true := by simp
def sCard___init__ (C : Addr) : DSp := fun ds Q _ => ∃ p t : D, ds = [.obj C [] [], p, t] ∧ Q false .non [.obj C ["places", "tables"] [p, t]]
theorem i_Cinit {C : Addr} {p t : D} {Q : Bool → D → List D → Prop} {E : EdT} (h : Q false .non [.obj C ["places", "tables"] [p, t]]) : sCard___init__ C [.obj C [] [], p, t] Q E := ⟨p, t, rfl, h⟩
def sRing_strong (C : Addr) : DSp := fun ds Q _ => ∃ (l : List Int) (b : Int), ds = [ringD C l, .int b] ∧ l.length ≤ 100 ∧ Q true (.lst ((strongL l b).map D.int)) []
theorem i_Rstrong {C : Addr} {l : List Int} {b : Int} {Q : Bool → D → List D → Prop} {E : EdT} (h1 : l.length ≤ 100) (h : Q true (.lst ((strongL l b).map D.int)) []) : sRing_strong C [ringD C l, .int b] Q E := ⟨l, b, rfl, h1, h⟩
def sRing_size (C : Addr) : DSp := fun ds Q _ => ∃ l : List Int, ds = [ringD C l] ∧ Q false (.int l.length) []
theorem i_Rsize {C : Addr} {l : List Int} {Q : Bool → D → List D → Prop} {E : EdT} (h : Q false (.int l.length) []) : sRing_size C [ringD C l] Q E := ⟨l, rfl, h⟩
def sRing_up_to (C : Addr) : DSp := fun ds Q _ => ∃ (l : List Int) (b g : Int), ds = [ringD C l, .int b, .int g] ∧ 0 < l.length ∧ l.length ≤ 100 ∧ Q false (.int (upTo l b g)) []
theorem i_Rupto {C : Addr} {l : List Int} {b g : Int} {Q : Bool → D → List D → Prop} {E : EdT} (h1 : 0 < l.length) (h2 : l.length ≤ 100) (h : Q false (.int (upTo l b g)) []) : sRing_up_to C [ringD C l, .int b, .int g] Q E := ⟨l, b, g, rfl, h1, h2, h⟩
def slevels_after : DSp := fun ds Q _ => ∃ (n : Nat) (c : Int) (l gs : List Int), ds = [iL l, .int c, iL gs] ∧ l.length = n ∧ 2 ≤ n ∧ n ≤ 1000 ∧ Sch n gs ∧ Q true (iL ((iota n).map (ruH n gs (extH n c l)))) []
theorem i_lafter {n : Nat} {c : Int} {l gs : List Int} {Q : Bool → D → List D → Prop} {E : EdT} (hl : l.length = n) (h1 : 2 ≤ n) (h2 : n ≤ 1000) (hs : Sch n gs) (h : Q true (iL ((iota n).map (ruH n gs (extH n c l)))) []) : slevels_after [iL l, .int c, iL gs] Q E := ⟨n, c, l, gs, rfl, hl, h1, h2, hs, h⟩
theorem extH_lap {n : Nat} (h0 : 0 < n) (c : Int) (l : List Int) : LpB n c (extH n c l) := fun g => by
  unfold extH
  rw [show g + (n : Int) = g + 1 * n by omega, Int.add_mul_ediv_right _ _ (by omega), Int.add_mul_emod_self_right, Int.add_mul]
  omega
theorem extH_list {n : Nat} {c : Int} {l : List Int} (hl : l.length = n) : (iota n).map (extH n c l) = l := by
  refine ig_ext (by rw [List.length_map, iota_len, hl]) fun i hi => ?_
  rw [List.length_map, iota_len] at hi
  rw [ig_ext_map _ hi]
  unfold extH
  rw [Int.emod_eq_of_lt (by omega) (by omega), Int.ediv_eq_zero_of_lt (by omega) (by omega)]
  omega
def sRing_block (C : Addr) : DSp := fun ds Q _ => ∃ (n : Nat) (c : Nat) (x : Int), ds = [.cls C, .int n, .int c, .int x] ∧ 2 ≤ n ∧ n ≤ 12 ∧ c ≤ n ∧ Q true (ringD C (blk n c x)) []
theorem i_Rblock {C : Addr} {n c : Nat} {x : Int} {Q : Bool → D → List D → Prop} {E : EdT} (h1 : 2 ≤ n) (h2 : n ≤ 12) (h3 : c ≤ n) (h : Q true (ringD C (blk n c x)) []) : sRing_block C [.cls C, .int n, .int c, .int x] Q E := ⟨n, c, x, rfl, h1, h2, h3, h⟩
def sblock_values (C : Addr) : DSp := fun ds Q _ => ∃ (n c x : Nat) (gs : List Int), ds = [.int n, .int c, .int x, iL gs] ∧ 2 ≤ n ∧ n ≤ 12 ∧ c ≤ n ∧ Sch n gs ∧ Q true (iL (rowL n gs c x)) []
theorem i_bvalues {C : Addr} {n c x : Nat} {gs : List Int} {Q : Bool → D → List D → Prop} {E : EdT} (h1 : 2 ≤ n) (h2 : n ≤ 12) (h3 : c ≤ n) (hs : Sch n gs) (h : Q true (iL (rowL n gs c x)) []) : sblock_values C [.int n, .int c, .int x, iL gs] Q E := ⟨n, c, x, gs, rfl, h1, h2, h3, hs, h⟩
def scard_of (C C_Ring : Addr) : DSp := fun ds Q _ => ∃ (n : Nat) (gs : List Int), ds = [.int n, iL gs] ∧ 2 ≤ n ∧ n ≤ 12 ∧ Sch n gs ∧ Q true (cardD C n gs) []
theorem i_cardof {C C_Ring : Addr} {n : Nat} {gs : List Int} {Q : Bool → D → List D → Prop} {E : EdT} (h1 : 2 ≤ n) (h2 : n ≤ 12) (hs : Sch n gs) (h : Q true (cardD C n gs) []) : scard_of C C_Ring [.int n, iL gs] Q E := ⟨n, gs, rfl, h1, h2, hs, h⟩
abbrev slaw_take : DSp := takeD
def slaw_schedule : DSp := fun ds Q _ => ∃ (b : D) (n m : Int), ds = [b, .int n, .int m] ∧ BagD b ∧ 2 ≤ n ∧ n ≤ 1000 ∧ 0 ≤ m ∧ m ≤ 1000 ∧ ∀ (l : List Int) b', (l.length : Int) ≤ m → Sch n l → BagD b' → Q true (.lst (l.map D.int)) [b']
theorem i_sched {b : D} {n m : Int} {Q : Bool → D → List D → Prop} {E : EdT} (hb : BagD b) (h1 : 2 ≤ n) (h2 : n ≤ 1000) (h3 : 0 ≤ m) (h4 : m ≤ 1000) (h : ∀ (l : List Int) b', (l.length : Int) ≤ m → Sch n l → BagD b' → Q true (.lst (l.map D.int)) [b']) : slaw_schedule [b, .int n, .int m] Q E := ⟨b, n, m, rfl, hb, h1, h2, h3, h4, h⟩
def slaw_ranks : DSp := fun ds Q _ => ∃ (b : D) (n : Int), ds = [b, .int n] ∧ BagD b ∧ 2 ≤ n ∧ n ≤ 100 ∧ ∀ (l : List Int) b', (l.length : Int) = n → (∀ x ∈ l, rkOk x) → BagD b' → Q true (.lst (l.map D.int)) [b']
theorem i_ranks {b : D} {n : Int} {Q : Bool → D → List D → Prop} {E : EdT} (hb : BagD b) (h1 : 2 ≤ n) (h2 : n ≤ 100) (h : ∀ (l : List Int) b', (l.length : Int) = n → (∀ x ∈ l, rkOk x) → BagD b' → Q true (.lst (l.map D.int)) [b']) : slaw_ranks [b, .int n] Q E := ⟨b, n, rfl, hb, h1, h2, h⟩
def slaw_some_size : DSp := fun ds Q _ => ∃ (b : D) (m : Int), ds = [b, .int m] ∧ BagD b ∧ 2 ≤ m ∧ m ≤ 100 ∧ ∀ (n : Int) b', 2 ≤ n → n ≤ m → BagD b' → Q false (.int n) [b']
theorem i_some {b : D} {m : Int} {Q : Bool → D → List D → Prop} {E : EdT} (hb : BagD b) (h1 : 2 ≤ m) (h2 : m ≤ 100) (h : ∀ (n : Int) b', 2 ≤ n → n ≤ m → BagD b' → Q false (.int n) [b']) : slaw_some_size [b, .int m] Q E := ⟨b, m, rfl, hb, h1, h2, h⟩
abbrev slaw_bag : DSp := bagD
abbrev slaw : DSp := slawD
set_option maxHeartbeats 4000000 in
theorem v_law_ended (ds : List D) (Qd : Bool → D → List D → Prop) (Ed : EdT) (hl : ds.length = 1) (h : slaw_ended ds Qd Ed) : m_law_ended (endsD [.S] Qd) (startD ["_law_there", "_law_size", "_law_found", "_law_place", "_law_person"] [.S] ds) := by
  obtain ⟨n, t, rfl, O, h2, hq⟩ := h
  unfold m_law_ended
  lcg_src
  have hl := O.len
  lcg_sub
  refine loop_rng n (fun i Γ => ∃ (k : Nat) (c3 c4 : Sl) (l : List Int), i = k ∧ Γ = [.sh (iL t), .sh (.int t.length), .ow (iL l), c3, c4] ∧ fr c3 = true ∧ fr c4 = true ∧ Scat n t l k) ?_ ?_ ?_ _ _ _ (by omega) ⟨0, _, _, _, rfl, rfl, rfl, rfl, by rw [hl]; exact Scat.zero n t⟩
  · intro i Γ _; exact trivial
  · rintro Γ ⟨k, c3, c4, l, hk, rfl, f3, f4, S⟩
    have hk : k = n := by omega
    subst hk
    rw [S.done O]
    lcg_sub
    exact hq
  · rintro i Γ N hi ⟨k, c3, c4, l, rfl, rfl, f3, f4, S⟩ hN
    have r := O.res (i := k) (by omega)
    have hS := S.len
    have st := S.step O (show k < n by omega)
    rw [← hl] at r st
    have i1 : -(t.length : Int) ≤ k ∧ (k : Int) < t.length := by omega
    lcg_sub
    exact hN _ ⟨k + 1, _, _, _, by omega, rfl, rfl, rfl, by rw [hl] at st ⊢; exact st⟩
set_option maxHeartbeats 4000000 in
theorem v_law_after (ds : List D) (Qd : Bool → D → List D → Prop) (Ed : EdT) (hl : ds.length = 2) (h : slaw_after ds Qd Ed) : m_law_after (endsD [.S, .S] Qd) (startD ["_law_ranks_here", "_law_there", "_law_copy"] [.S, .S] ds) := by
  obtain ⟨r, t, rfl, h1, h2, hq⟩ := h
  unfold m_law_after
  lcg_src
  lcg_sub
  refine comp_fn (mapG (rkP r)) (by first | exact trivial | rfl) (by rfl) _ _ (fun x hx N hN => ?_) ?_ ?_
  · obtain ⟨i, hi, rfl⟩ := List.mem_map.mp hx
    have m1 := Int.emod_nonneg i (show (r.length : Int) ≠ 0 by omega)
    have m2 := Int.emod_lt_of_pos i (show (0 : Int) < r.length by omega)
    have i1 : -(r.length : Int) ≤ i % r.length ∧ i % r.length < r.length := by omega
    lcg_sub
    exact hN
  · rw [List.length_map]; simp only [List.length_nil]; omega
  rw [List.nil_append, mapG_all]
  lcg_sub
  exact hq
set_option maxHeartbeats 4000000 in
theorem v_law_called (ds : List D) (Qd : Bool → D → List D → Prop) (Ed : EdT) (hl : ds.length = 3) (h : slaw_called ds Qd Ed) : m_law_called (endsD [.S, .M, .S] Qd) (startD ["_law_ranks_here", "_law_there", "_law_gap", "_law_size", "_law_first", "_law_second"] [.S, .M, .S] ds) := by
  obtain ⟨r, t, g, rfl, h1, h2, h3, h4, hq⟩ := h
  unfold m_law_called
  lcg_src
  have bd : ∀ x : Int, -(r.length : Int) ≤ x % r.length ∧ x % r.length < r.length := fun x => ⟨by have := Int.emod_nonneg x (show (r.length : Int) ≠ 0 by omega); omega, Int.emod_lt_of_pos x (by omega)⟩
  by_cases hg : (g : Int) < (r.length : Int) - 1
  · have en : nxP t.length g = g + 1 := by unfold nxP; rw [if_pos (by omega)]
    have es : shP t.length g = 0 := by unfold shP; rw [if_pos (by omega)]
    have b1 := bd (ig t (g : Int))
    have b2 := bd (ig t ((g : Int) + 1))
    have ep : passT r t g = decide (ig r (ig t ((g : Int) + 1) % r.length) < ig r (ig t (g : Int) % r.length)) := by
      unfold passT rkP
      rw [en, es, Int.add_zero]; rfl
    lcg_sub
    refine e_dif (fun hc => ?_) (fun hc => ?_)
    · rw [decide_eq_true hc] at ep
      have ec : callT r t g = (t.set g (ig t ((g : Int) + 1))).set (g + 1) (ig t (g : Int)) := by
        unfold callT swapT
        rw [if_pos ep, en, es, Int.add_zero, Int.sub_zero]; rfl
      rw [ep, ec] at hq
      lcg_sub
      exact hq
    · rw [decide_eq_false hc] at ep
      have ec : callT r t g = t := by
        unfold callT
        rw [if_neg (by rw [ep]; exact Bool.false_ne_true)]
      lcg_sub
      rw [ep, ec] at hq
      exact hq
  · have hg2 : g + 1 = r.length := by omega
    have en : nxP t.length g = 0 := by unfold nxP; rw [if_neg (by omega)]
    have es : shP t.length g = r.length := by unfold shP; rw [if_neg (by omega), h3]
    have eg : (r.length : Int) - 1 = g := by omega
    have b1 := bd (ig t (g : Int))
    have b2 := bd (ig t 0 + r.length)
    have ep : passT r t g = decide (ig r ((ig t 0 + r.length) % r.length) < ig r (ig t (g : Int) % r.length)) := by
      unfold passT rkP
      rw [en, es]; rfl
    have i1 : -(t.length : Int) ≤ (r.length : Int) - 1 ∧ (r.length : Int) - 1 < t.length := by omega
    rw [← eg] at b1 ep
    lcg_sub
    refine e_dif (fun hc => ?_) (fun hc => ?_)
    · rw [decide_eq_true hc] at ep
      have ec : callT r t g = (t.set g (ig t 0 + r.length)).set 0 (ig t ((r.length : Int) - 1) - r.length) := by
        unfold callT swapT
        rw [if_pos ep, en, es, eg]; rfl
      rw [ep, ec] at hq
      have et : ((r.length : Int) - 1).toNat = g := by omega
      rw [← et] at hq
      lcg_sub
      exact hq
    · rw [decide_eq_false hc] at ep
      have ec : callT r t g = t := by
        unfold callT
        rw [if_neg (by rw [ep]; exact Bool.false_ne_true)]
      rw [ep, ec] at hq
      lcg_sub
      exact hq
set_option maxHeartbeats 4000000 in
theorem v_law_standing (ds : List D) (Qd : Bool → D → List D → Prop) (Ed : EdT) (hl : ds.length = 1) (h : slaw_standing ds Qd Ed) : m_law_standing (endsD [.S] Qd) (startD ["_law_size"] [.S] ds) := by
  obtain ⟨n, rfl, h1, hq⟩ := h
  unfold m_law_standing
  lcg_src
  lcg_sub
  rw [rgD_iota]
  exact hq
set_option maxHeartbeats 4000000 in
theorem v_law_run (ds : List D) (Qd : Bool → D → List D → Prop) (Ed : EdT) (hl : ds.length = 2) (h : slaw_run ds Qd Ed) : m_law_run slaw_called slaw_standing (endsD [.S, .S] Qd) (startD ["_law_ranks_here", "_law_schedule_here", "_law_there", "_law_found", "_law_at", "_law_gap"] [.S, .S] ds) := by
  obtain ⟨n, r, gs, rfl, hr, h1, h2, hs, hl2, hq⟩ := h
  unfold m_law_run
  lcg_src
  lcg_sub
  refine loop_enum (fun i xs Γ => ∃ (t acc gs' : List Int) (c4 c5 : Sl), xs = gs'.map D.int ∧ Γ = [.sh (iL r), .sh (iL gs), .ow (iL t), .ow (iL acc), c4, c5] ∧ fr c4 = true ∧ fr c5 = true ∧ t.length = n ∧ Sch n gs' ∧ runT r gs' t = runT r gs (iota n) ∧ acc ++ passed r gs' t i = passed r gs (iota n) 0 ∧ acc.length + gs'.length ≤ 1000) ?_ ?_ ?_ _ _ _ ⟨iota n, [], gs, _, _, rfl, by rw [hr]; rfl, rfl, rfl, iota_len n, hs, rfl, rfl, by simpa using hl2⟩
  · intro i xs Γ _; first | exact trivial | (rename_i hSRC; revert hSRC; simp only [forall_exists_index, and_imp]; intros; subst_vars; rfl)
  · rintro i Γ ⟨t, acc, gs', c4, c5, hx, rfl, f4, f5, ht, hs', h1, h2, h3⟩
    have e : gs' = [] := by cases gs' with | nil => rfl | cons _ _ => cases hx
    subst e
    have h2 : acc = passed r gs (iota n) 0 := by rw [← h2]; simp [passed]
    have h1 : t = runT r gs (iota n) := h1
    lcg_sub
    rw [h1, h2]
    exact hq
  · rintro i x xs Γ N ⟨t, acc, gs', c4, c5, hx, rfl, f4, f5, ht, hs', h1, h2, h3⟩ hN
    cases gs' with
    | nil => cases hx
    | cons g gs' =>
      injection hx with hx1 hx2
      subst hx1 hx2
      obtain ⟨g0, g1⟩ := hs'.mem g (List.mem_cons_self ..)
      obtain ⟨k, rfl⟩ := Int.eq_ofNat_of_zero_le g0
      have hs2 : Sch n gs' := ⟨fun x hx => hs'.mem x (List.mem_cons_of_mem _ hx)⟩
      have e1 : runT r (((k : Nat) : Int) :: gs') t = runT r gs' (callT r t k) := rfl
      have e2 : passed r (((k : Nat) : Int) :: gs') t i = if passT r t k = true then ((i : Nat) : Int) :: passed r gs' (callT r t k) (i + 1) else passed r gs' (callT r t k) (i + 1) := rfl
      rw [List.length_cons] at h3
      lcg_sub
      refine i_called (by omega) (by omega) (by omega) (by omega) ?_
      lcg_sub
      refine e_ite (fun hp => ?_) (fun hp => ?_)
      · rw [hp, if_pos rfl] at e2
        lcg_sub
        exact hN _ ⟨_, acc ++ [(i : Int)], gs', _, _, rfl, rfl, rfl, rfl, by rw [callT_len, ht], hs2, by rw [← h1, e1], by rw [← h2, e2]; simp, by rw [List.length_append, List.length_singleton]; omega⟩
      · rw [hp, if_neg Bool.false_ne_true] at e2
        lcg_sub
        exact hN _ ⟨_, acc, gs', _, _, rfl, rfl, rfl, rfl, by rw [callT_len, ht], hs2, by rw [← h1, e1], by rw [← h2, e2]; simp, by omega⟩
set_option maxHeartbeats 4000000 in
theorem v_law_laps_right (ds : List D) (Qd : Bool → D → List D → Prop) (Ed : EdT) (hl : ds.length = 3) (h : slaw_laps_right ds Qd Ed) : m_law_laps_right slaw_ended slaw_after slaw_run (endsD [.S, .S, .S] Qd) (startD ["_law_ranks_here", "_law_schedule_here", "_law_laps", "_law_turn", "_law_size", "_law_known", "_law_there", "_law_key", "_law_rank", "_law_before", "_law_ends", "_law_group", "_law_gone", "_law_many", "_law_top", "_law_low", "_law_place"] [.S, .S, .S] ds) := by
  obtain ⟨n, gs, r, rfl, hr, h1, h2, hs, hl, hL, hk, hq⟩ := h
  unfold m_law_laps_right
  lcg_src
  lcg_sub
  rw [hr]
  refine loop_rng 60 (fun i Γ => ∃ (k : Nat) (J : List Nat) (c3 c6 c7 c8 c9 c10 c11 c12 c13 c14 c15 : Sl), i = k ∧ (∀ j ∈ J, j < k) ∧ J.length ≤ k ∧ Γ = [.sh (iL r), .sh (iL gs), .sh (.lst ((r.map (lapF n gs r)).map frD)), c3, .sh (.int (n : Int)), .ow (.dic (knR n gs r J)), c6, c7, c8, c9, c10, c11, c12, c13, c14, c15, .no] ∧ (fr c3 = true ∧ fr c6 = true ∧ fr c7 = true ∧ fr c8 = true ∧ fr c9 = true ∧ fr c10 = true ∧ fr c11 = true ∧ fr c12 = true ∧ fr c13 = true ∧ fr c14 = true ∧ fr c15 = true)) ?_ ?_ ?_ _ _ _ (by decide) ⟨0, [], .no, .no, .no, .no, .no, .no, .no, .no, .no, .no, .no, rfl, by simp, by simp, rfl, ⟨rfl, rfl, rfl, rfl, rfl, rfl, rfl, rfl, rfl, rfl, rfl⟩⟩
  · intro i Γ _; exact trivial
  · rintro Γ ⟨k, J, c3, c6, c7, c8, c9, c10, c11, c12, c13, c14, c15, -, -, -, rfl, -⟩
    lcg_sub
    exact hq
  rintro i Γ M hi ⟨k, J, c3, c6, c7, c8, c9, c10, c11, c12, c13, c14, c15, rfl, hJ, hJl, rfl, ⟨f3, f6, f7, f8, f9, f10, f11, f12, f13, f14, f15⟩⟩ hM
  have hkk : k < 60 := by omega
  have hO : ∀ j, Out n (runT r (repG j gs) (iota n)) := fun j => Out.run h1 r (repG j gs) _ (Sch.rep hs j).mem (out_iota n)
  have hTl : ∀ j, (runT r (repG j gs) (iota n)).length = n := fun j => by rw [runT_len, iota_len]
  have hlen : k * gs.length ≤ 59 * 100 := Nat.mul_le_mul (by omega) hl
  have e3 : ¬(k * gs.length < 400) → ¬((k : Int) * gs.length < 400) := fun h z => h (by exact_mod_cast z)
  have e4 : k * gs.length < 400 → ((k : Int) * gs.length < 400) := fun z => by exact_mod_cast z
  have hT0 : runT r (repG k gs) (iota n) ≠ [] := fun z => by have := hTl k; rw [z] at this; simp at this; omega
  lcg_sub
  by_cases hc : k * gs.length < 400
  · refine e_dT (e4 hc) ?_
    lcg_sub
    refine i_mulI (by rw [Nat.mul_comm]; omega) (by omega) ?_
    rw [show (List.replicate k gs).flatten = repG k gs from rfl]
    lcg_sub
    refine ⟨n, r, repG k gs, rfl, hr, h1, by omega, Sch.rep hs k, by rw [show (repG k gs).length = k * gs.length by unfold repG; rw [List.length_flatten, List.map_replicate, List.sum_replicate_nat]]; omega, ?_⟩
    lcg_sub
    refine i_after (by omega) (by rw [hTl]; omega) ?_
    lcg_sub
    refine i_strL (okR_ranks (by omega) hk (by rw [hTl]; omega)) ?_
    lcg_sub
    refine i_neL (j := []) ?_
    rw [decide_eq_false hT0]
    lcg_sub
    rw [show (toPy (D.lst (List.map D.int (moveR r (runT r (repG k gs) (iota n)))))).shown = txR r (runT r (repG k gs) (iota n)) from rfl]
    rcases look_kn n gs r (txR r (runT r (repG k gs) (iota n))) J with ⟨hl, hno⟩ | ⟨j, hj, htx, hl⟩
    · refine i_din (o := none) (congrArg some hl) ?_
      rw [show (none : Option D).isSome = false from rfl]
      lcg_sub
      refine i_neL (j := []) ?_
      rw [decide_eq_false hT0]
      lcg_sub
      refine s_dput (c' := .dic (knR n gs r (J ++ [k]))) rfl rfl rfl ?_ rfl ?_
      · show (if (knR n gs r J).length < 100000 then some (D.dic (putE (knR n gs r J) (.inr (txR r (runT r (repG k gs) (iota n)))) (.tup [.int (k : Int), iL (runT r (repG k gs) (iota n))]))) else none) = _
        rw [if_pos (by unfold knR; rw [List.length_map]; omega), put_kn hno]
      · refine hM _ ⟨k + 1, J ++ [k], _, _, _, _, _, _, _, _, _, _, _, by omega, fun j h => ?_, by rw [List.length_append, List.length_singleton]; omega, rfl, by refine ⟨?_, ?_, ?_, ?_, ?_, ?_, ?_, ?_, ?_, ?_, ?_⟩ <;> first | rfl | assumption⟩
        rcases List.mem_append.mp h with h | h
        · have := hJ j h; omega
        · have := List.mem_singleton.mp h; omega
    · refine i_din (o := some _) (congrArg some hl) ?_
      rw [show ∀ d : D, (some d).isSome = true from fun _ => rfl]
      lcg_sub
      refine i_dget (congrArg some hl) ?_
      lcg_sub
      refine i_ended (hO j) (by omega) ?_
      lcg_sub
      refine i_ended (hO k) (by omega) ?_
      lcg_sub
      have hjk : j < k := hJ j hj
      have hm : moveR r (runT r (repG j gs) (iota n)) = moveR r (runT r (repG k gs) (iota n)) := shown_inj (by rw [moveR_len, moveR_len, hTl, hTl]) htx
      refine loop_ints (fun xs Γ => ∃ (c8 c11 c12 c13 c14 c15 : Sl), (∀ x ∈ xs, x ∈ r) ∧ Γ = [.sh (iL r), .sh (iL gs), .sh (.lst ((r.map (lapF n gs r)).map frD)), .sh (.int (k : Int)), .sh (.int (n : Int)), .ow (.dic (knR n gs r J)), .sh (iL (runT r (repG k gs) (iota n))), .sh (.str (txR r (runT r (repG k gs) (iota n)))), c8, .sh (.tup ((invO (runT r (repG j gs) (iota n))).map D.int)), .sh (.tup ((invO (runT r (repG k gs) (iota n))).map D.int)), c11, c12, c13, c14, c15, .no] ∧ (fr c8 = true ∧ fr c11 = true ∧ fr c12 = true ∧ fr c13 = true ∧ fr c14 = true ∧ fr c15 = true)) ?_ ?_ ?_ _ _ ⟨_, _, _, _, _, _, fun x hx => (hsset2 x).mp hx, rfl, ⟨by assumption, by assumption, by assumption, by assumption, by assumption, by assumption⟩⟩
      · intro xs Γ _; exact trivial
      · rintro Γ ⟨c8, c11, c12, c13, c14, c15, -, rfl, -⟩
        lcg_sub
        exact hq
      rintro t xs Γ N ⟨c8, c11, c12, c13, c14, c15, hx, rfl, ⟨f8, f11, f12, f13, f14, f15⟩⟩ hN
      have ht : t ∈ r := hx t (List.mem_cons_self ..)
      obtain ⟨hLp, hLb⟩ := hL t ht
      have hgone := lap_gone hr h1 hs (i := j) (P := k - j) (by rw [show j + (k - j) = k by omega]; exact hm) hLp
      rw [show j + (k - j) = k by omega] at hgone
      have li1 : (invO (runT r (repG j gs) (iota n))).length = n := by rw [invO_len]; exact hTl j
      have li2 : (invO (runT r (repG k gs) (iota n))).length = n := by rw [invO_len]; exact hTl k
      lcg_sub
      rw [show rngD 0 (Int.toNat (n : Int)) = (iota n).map D.int from rgD_iota n]
      refine comp_fn (filG fun p => decide (ig r p = t)) (by exact trivial) rfl _ _ (fun x hx' K2 hK => ?_) ?_ ?_
      · obtain ⟨p, hp, rfl⟩ := List.mem_map.mp hx'
        obtain ⟨p0, p1⟩ := mem_iota.mp hp
        lcg_sub
        by_cases hpt : ig r p = t
        · refine e_dT hpt ?_
          rw [filG_T (decide_eq_true hpt)] at hK
          lcg_sub
          exact hK
        · refine e_dF hpt ?_
          rw [filG_F (decide_eq_false hpt)] at hK
          lcg_sub
          exact hK
      · simp only [List.length_nil, List.length_map, iota_len]; omega
      rw [List.nil_append, filG_all]
      rw [show (iota n).filter (fun p => decide (ig r p = t)) = grpL n r t from rfl]
      have hgm : ∀ p ∈ grpL n r t, 0 ≤ p ∧ p < n ∧ ig r p = t := fun p hp => by
        obtain ⟨a, b⟩ := List.mem_filter.mp hp
        obtain ⟨p0, p1⟩ := mem_iota.mp a
        exact ⟨p0, p1, of_decide_eq_true b⟩
      have hgl : 0 < (grpL n r t).length := by rw [grp_len hr]; exact List.count_pos_iff.mpr ht
      have hgl2 : (grpL n r t).length ≤ n := by rw [grp_len hr, ← hr]; exact List.count_le_length
      generalize grpL n r t = G at *
      lcg_sub
      refine comp_fn (mapG fun p => ig (invO (runT r (repG k gs) (iota n))) p - ig (invO (runT r (repG j gs) (iota n))) p) (by exact trivial) rfl _ _ (fun x hx' K2 hK => ?_) ?_ ?_
      · obtain ⟨p, hp, rfl⟩ := List.mem_map.mp hx'
        obtain ⟨p0, p1, p2⟩ := hgm p hp
        generalize invO (runT r (repG k gs) (iota n)) = A at *
        generalize invO (runT r (repG j gs) (iota n)) = B at *
        lcg_sub
        exact hK
      · simp only [List.length_nil, List.length_map]; omega
      rw [List.nil_append, mapG_all]
      lcg_sub
      have hg0 := hgm (ig G 0) (ig_mem (by omega))
      have hat : atI ((r.map (lapF n gs r)).map frD) (ig G 0) = some (frD (lapF n gs r t)) := by
        obtain ⟨g0, g1, g2⟩ := hg0
        obtain ⟨g, hg⟩ := Int.eq_ofNat_of_zero_le g0
        rw [hg] at g1 g2 ⊢
        rw [atI_some (by omega) (by rw [List.length_map, List.length_map, hr]; omega)]
        rw [ig_get (by omega)] at g2
        simp [g2]
      generalize (List.map (fun p => ig (invO (runT r (repG k gs) (iota n))) p - ig (invO (runT r (repG j gs) (iota n))) p) G).sum = gone at *
      obtain ⟨lb1, lb2, lb3⟩ := hLb
      generalize lapF n gs r t = L at *
      rw [show ((k - j : Nat) : Int) = (k : Int) - j by omega] at hgone
      have hmb : (((k : Int) - j) * G.length).natAbs < 2 ^ 20 := by
        have := Nat.mul_le_mul (show ((k : Int) - j).natAbs ≤ 60 by omega) (show ((G.length : Int)).natAbs ≤ 6 by omega)
        rw [← Int.natAbs_mul] at this
        omega
      have hm1 : DL.MulOk ((k : Int) - j) G.length := mulW (a := 7) (b := 7) (by omega) (by omega) (by decide) (by decide) (by decide)
      have hm2 : DL.MulOk L.1 (((k : Int) - j) * G.length) := mulW lb1 hmb (by decide) (by decide) (by decide)
      have pb : ∀ {a b : Int} {p q : Nat}, a.natAbs < 2 ^ p → b.natAbs < 2 ^ q → (a * b).natAbs < 2 ^ (p + q) := fun {a b p q} h1 h2 => by
        rw [Int.natAbs_mul, Nat.pow_add]
        exact Nat.mul_lt_mul'' h1 h2
      have w2 := pb lb1 hmb
      have hn4 : ((n : Int)).natAbs < 2 ^ 4 := by omega
      have hm3 : DL.MulOk (L.1 * (((k : Int) - j) * G.length)) n := mulW w2 hn4 (by decide) (by decide) (by decide)
      have w3 := pb w2 hn4
      have hm4 : DL.MulOk gone L.2 := by
        refine mulW (a := 220 + 20 + 4) (b := 12) ?_ (by omega) (by decide) (by decide) (by decide)
        rw [← hgone, Int.natAbs_mul] at w3
        exact Nat.lt_of_le_of_lt (Nat.le_mul_of_pos_right _ (by omega)) w3
      refine i_ix (d := .tup [.int L.1, .int L.2]) hat ?_
      lcg_sub
      refine i_dget (congrArg some hl) ?_
      lcg_sub
      exact hN _ ⟨_, _, _, _, _, _, fun x h => hx x (List.mem_cons_of_mem _ h), rfl, ⟨rfl, rfl, rfl, rfl, rfl, rfl⟩⟩
  · refine e_dF (e3 hc) ?_
    lcg_sub
    refine i_after (t := []) (by omega) (by simp) ?_
    lcg_sub
    refine i_strL (okR_ranks (by omega) hk (by simp)) ?_
    lcg_sub
    refine i_neL (i := []) (j := []) ?_
    rw [decide_eq_true rfl]
    lcg_sub
    refine i_neL (i := []) (j := []) ?_
    rw [decide_eq_true rfl]
    lcg_sub
    exact hM _ ⟨k + 1, J, _, _, _, _, _, _, _, _, _, _, _, by omega, fun j h => by have := hJ j h; omega, by omega, rfl, by refine ⟨?_, ?_, ?_, ?_, ?_, ?_, ?_, ?_, ?_, ?_, ?_⟩ <;> first | rfl | assumption⟩
set_option maxHeartbeats 4000000 in
theorem v_Card_size {C_Card : Addr} (ds : List D) (Qd : Bool → D → List D → Prop) (Ed : EdT) (hl : ds.length = 1) (h : sCard_size C_Card ds Qd Ed) : m_Card_size C_Card (endsD [.S] Qd) (startD ["self"] [.S] ds) := by
  obtain ⟨n, gs, rfl, hq⟩ := h
  unfold m_Card_size cardD
  lcg_src
  lcg_sub
  exact hq
set_option maxHeartbeats 4000000 in
theorem v_is_less (ds : List D) (Qd : Bool → D → List D → Prop) (Ed : EdT) (hl : ds.length = 2) (h : sis_less ds Qd Ed) : m_is_less (endsD [.S, .S] Qd) (startD ["one", "other"] [.S, .S] ds) := by
  obtain ⟨x, y, rfl, hx, hy, hq⟩ := h
  unfold m_is_less frD
  lcg_src
  have m1 := mulB hx.b1 hy.b2
  have m2 := mulB hy.b1 hx.b2
  lcg_sub
  · exact hq
  · exact m1
  · exact m2
set_option maxHeartbeats 4000000 in
theorem v_least_of (ds : List D) (Qd : Bool → D → List D → Prop) (Ed : EdT) (hl : ds.length = 1) (h : sleast_of ds Qd Ed) : m_least_of sis_less (endsD [.S] Qd) (startD ["fractions", "found", "one"] [.S] ds) := by
  obtain ⟨l, rfl, h0, hl1, h1, hq⟩ := h
  unfold m_least_of
  lcg_src
  lcg_sub
  refine i_ix (d := frD (l[0]'h0)) ?_ ?_
  · unfold atI
    rw [show (0 : Int) = ((0 : Nat) : Int) from rfl, ixN_nat (by rw [List.length_map]; exact h0), Option.bind_some, List.getElem?_map, List.getElem?_eq_getElem h0]
    rfl
  lcg_sub
  have hmem : l[0]'h0 ∈ l := List.getElem_mem h0
  generalize l[0]'h0 = r0 at hmem
  refine loop_inv (fun xs Γ => ∃ (k : Nat) (r : Int × Int) (c2 : Sl), k ≤ l.length ∧ xs = (l.drop k).map frD ∧ r ∈ l ∧ (∀ y ∈ l.take k, r.1 * y.2 ≤ y.1 * r.2) ∧ Γ = [.sh (.lst (l.map frD)), .sh (frD r), c2] ∧ fr c2 = true) ?_ ?_ ?_ _ _ ⟨0, r0, .no, Nat.zero_le _, by rw [List.drop_zero], hmem, fun y hy => by simp at hy, rfl, rfl⟩
  · intro xs Γ _; exact trivial
  · rintro Γ ⟨k, r, c2, hk, hx, hr, hle, rfl, f2⟩
    have hk2 : l.length ≤ k := by
      have := congrArg List.length hx
      rw [List.length_map, List.length_drop, List.length_nil] at this
      omega
    rw [List.take_of_length_le hk2] at hle
    lcg_sub
    exact hq r hr hle
  · rintro z xs Γ M ⟨k, r, c2, hk, hx, hr, hle, rfl, f2⟩ hM
    have hk2 : k < l.length := by
      have := congrArg List.length hx
      rw [List.length_map, List.length_drop, List.length_cons] at this
      omega
    rw [List.drop_eq_getElem_cons hk2, List.map_cons] at hx
    injection hx with e1 e2
    subst e1
    have hm : l[k] ∈ l := List.getElem_mem hk2
    have htk : ∀ P : Int × Int → Prop, (∀ y ∈ l.take k, P y) → P l[k] → ∀ y ∈ l.take (k + 1), P y := fun P h1 h2 y hy => by
      rw [List.take_succ_eq_append_getElem hk2] at hy
      rcases List.mem_append.mp hy with h | h
      · exact h1 y h
      · rw [List.mem_singleton.mp h]; exact h2
    have hfx := h1 _ hm
    have hfr := h1 _ hr
    generalize l[k] = x at *
    lcg_sub
    refine i_isless hfx hfr ?_
    lcg_sub
    refine e_dif (fun hc => ?_) (fun hc => ?_)
    · lcg_sub
      refine hM _ ⟨k + 1, x, .sh (frD x), by omega, e2, hm, htk _ (fun y hy => ?_) (by omega), rfl, rfl⟩
      have hy2 := h1 y (List.mem_of_mem_take hy)
      exact frle_trans hfx.pos hfr.pos hy2.pos (by omega) (hle y hy)
    · lcg_sub
      exact hM _ ⟨k + 1, r, .sh (frD x), by omega, e2, hr, htk _ hle (by omega), rfl, rfl⟩
set_option maxHeartbeats 4000000 in
theorem v_greatest_of (ds : List D) (Qd : Bool → D → List D → Prop) (Ed : EdT) (hl : ds.length = 1) (h : sgreatest_of ds Qd Ed) : m_greatest_of sis_less (endsD [.S] Qd) (startD ["fractions", "found", "one"] [.S] ds) := by
  obtain ⟨l, rfl, h0, hl1, h1, hq⟩ := h
  unfold m_greatest_of
  lcg_src
  lcg_sub
  refine i_ix (d := frD (l[0]'h0)) ?_ ?_
  · unfold atI
    rw [show (0 : Int) = ((0 : Nat) : Int) from rfl, ixN_nat (by rw [List.length_map]; exact h0), Option.bind_some, List.getElem?_map, List.getElem?_eq_getElem h0]
    rfl
  lcg_sub
  have hmem : l[0]'h0 ∈ l := List.getElem_mem h0
  generalize l[0]'h0 = r0 at hmem
  refine loop_inv (fun xs Γ => ∃ (k : Nat) (r : Int × Int) (c2 : Sl), k ≤ l.length ∧ xs = (l.drop k).map frD ∧ r ∈ l ∧ (∀ y ∈ l.take k, y.1 * r.2 ≤ r.1 * y.2) ∧ Γ = [.sh (.lst (l.map frD)), .sh (frD r), c2] ∧ fr c2 = true) ?_ ?_ ?_ _ _ ⟨0, r0, .no, Nat.zero_le _, by rw [List.drop_zero], hmem, fun y hy => by simp at hy, rfl, rfl⟩
  · intro xs Γ _; exact trivial
  · rintro Γ ⟨k, r, c2, hk, hx, hr, hle, rfl, f2⟩
    have hk2 : l.length ≤ k := by
      have := congrArg List.length hx
      rw [List.length_map, List.length_drop, List.length_nil] at this
      omega
    rw [List.take_of_length_le hk2] at hle
    lcg_sub
    exact hq r hr hle
  · rintro z xs Γ M ⟨k, r, c2, hk, hx, hr, hle, rfl, f2⟩ hM
    have hk2 : k < l.length := by
      have := congrArg List.length hx
      rw [List.length_map, List.length_drop, List.length_cons] at this
      omega
    rw [List.drop_eq_getElem_cons hk2, List.map_cons] at hx
    injection hx with e1 e2
    subst e1
    have hm : l[k] ∈ l := List.getElem_mem hk2
    have htk : ∀ P : Int × Int → Prop, (∀ y ∈ l.take k, P y) → P l[k] → ∀ y ∈ l.take (k + 1), P y := fun P h1 h2 y hy => by
      rw [List.take_succ_eq_append_getElem hk2] at hy
      rcases List.mem_append.mp hy with h | h
      · exact h1 y h
      · rw [List.mem_singleton.mp h]; exact h2
    have hfx := h1 _ hm
    have hfr := h1 _ hr
    generalize l[k] = x at *
    lcg_sub
    refine i_isless hfr hfx ?_
    lcg_sub
    refine e_dif (fun hc => ?_) (fun hc => ?_)
    · lcg_sub
      refine hM _ ⟨k + 1, x, .sh (frD x), by omega, e2, hm, htk _ (fun y hy => ?_) (by omega), rfl, rfl⟩
      have hy2 := h1 y (List.mem_of_mem_take hy)
      exact frle_trans hy2.pos hfr.pos hfx.pos (hle y hy) (by omega)
    · lcg_sub
      exact hM _ ⟨k + 1, r, .sh (frD x), by omega, e2, hr, htk _ hle (by omega), rfl, rfl⟩
set_option maxHeartbeats 4000000 in
theorem v_common_divisor (ds : List D) (Qd : Bool → D → List D → Prop) (Ed : EdT) (hl : ds.length = 2) (h : scommon_divisor ds Qd Ed) : m_common_divisor (endsD [.S, .S] Qd) (startD ["one", "other"] [.S, .S] ds) := by
  obtain ⟨a, b, rfl, hq⟩ := h
  unfold m_common_divisor
  lcg_src
  lcg_sub
  refine ⟨fun k Γ => ∃ x y : Int, Γ = [.sh (.int x), .sh (.int y)] ∧ 0 ≤ x ∧ 0 ≤ y ∧ Int.gcd x y = Int.gcd a b ∧ k = y.toNat, ⟨_, _, _, rfl, by omega, by omega, by show Nat.gcd _ _ = Nat.gcd _ _; simp, rfl⟩, ?_⟩
  rintro k Γ ⟨x, y, rfl, hx, hy, hg, rfl⟩
  lcg_sub
  by_cases h0 : 0 < y
  · rw [if_pos (decide_eq_true h0)]
    have r0 := Int.emod_nonneg x (show y ≠ 0 by omega)
    have r1 := Int.emod_lt_of_pos x h0
    lcg_sub
    exact ⟨_, by omega, y, x % y, rfl, by omega, r0, by rw [gcd_step hx h0]; exact hg, rfl⟩
  · have e : y = 0 := by omega
    subst e
    rw [if_neg (by simp)]
    rw [Int.gcd_zero_right] at hg
    have e2 : x = (Int.gcd a b : Int) := by omega
    rw [e2]
    lcg_sub
    exact hq
set_option maxHeartbeats 4000000 in
theorem v_fraction (ds : List D) (Qd : Bool → D → List D → Prop) (Ed : EdT) (hl : ds.length = 2) (h : sfraction ds Qd Ed) : m_fraction scommon_divisor (endsD [.S, .S] Qd) (startD ["numerator", "denominator", "common"] [.S, .S] ds) := by
  obtain ⟨a, b, rfl, h0, hb, hq⟩ := h
  unfold m_fraction
  lcg_src
  have hg : 0 < Int.gcd a b := Int.gcd_pos_of_ne_zero_right a (by omega)
  lcg_sub
  refine i_cdiv ?_
  have d1 : (Int.gcd a b : Int) ∣ a := Int.gcd_dvd_left ..
  have d2 : (Int.gcd a b : Int) ∣ b := Int.gcd_dvd_right ..
  have hc : Int.gcd (a / (Int.gcd a b : Int)) (b / (Int.gcd a b : Int)) = 1 := Int.gcd_ediv_gcd_ediv_gcd hg
  generalize Int.gcd a b = g at *
  obtain ⟨x, rfl⟩ := d1
  obtain ⟨y, rfl⟩ := d2
  have hgi : (0 : Int) < g := by omega
  have e1 : (g : Int) * x / g = x := Int.mul_ediv_cancel_left x (by omega)
  have e2 : (g : Int) * y / g = y := Int.mul_ediv_cancel_left y (by omega)
  rw [e1, e2] at hc
  have hy : 0 < y := by
    refine Int.not_le.mp fun z => ?_
    have := Int.mul_nonpos_of_nonneg_of_nonpos (show (0 : Int) ≤ g by omega) z
    omega
  have hg2 : (g : Int) < 2 ^ 256 := by
    have := Int.mul_le_mul_of_nonneg_left (show (1 : Int) ≤ y by omega) (show (0 : Int) ≤ g by omega)
    omega
  have w1 : CDivW ((g : Int) * x) g := divW_of hgi hg2
  have w2 : CDivW ((g : Int) * y) g := divW_of hgi hg2
  lcg_sub
  rw [e1, e2]
  refine hq (x, y) hy hc (by dsimp only; rw [Int.mul_left_comm, Int.mul_assoc]) ?_ ?_
  · dsimp only
    have := Int.mul_le_mul_of_nonneg_right (show (1 : Int) ≤ g by omega) (show 0 ≤ y by omega)
    omega
  · dsimp only
    rw [Int.natAbs_mul]
    have := Nat.mul_le_mul_right x.natAbs (show 1 ≤ (g : Int).natAbs by omega)
    omega
set_option maxHeartbeats 4000000 in
theorem v_Card_value {C_Card : Addr} (ds : List D) (Qd : Bool → D → List D → Prop) (Ed : EdT) (hl : ds.length = 4) (h : sCard_value C_Card ds Qd Ed) : m_Card_value C_Card (endsD [.S, .S, .S, .S] Qd) (startD ["self", "count", "begin", "end"] [.S, .S, .S, .S] ds) := by
  obtain ⟨n, c, x, e, gs, rfl, h1, h2, h3, h4, hq⟩ := h
  unfold m_Card_value cardD
  lcg_src
  lcg_sub
  refine i_ix (at_tabsD gs h1 h2) ?_
  lcg_sub
  refine i_ix (at_tabL gs c h3) ?_
  lcg_sub
  refine i_ix (atI_ints (l := rowL n gs c x) (by rw [rowL_len]; omega)) ?_
  rw [ig_rowL gs c x h4]
  lcg_sub
  exact hq
set_option maxHeartbeats 4000000 in
theorem v_step_sums {C_Card : Addr} (ds : List D) (Qd : Bool → D → List D → Prop) (Ed : EdT) (hl : ds.length = 2) (h : sstep_sums C_Card ds Qd Ed) : m_step_sums C_Card (sCard_value C_Card) (sCard_size C_Card) (endsD [.S, .S] Qd) (startD ["card", "count", "gaps", "rows", "step", "last", "gap", "end", "begin"] [.S, .S] ds) := by
  obtain ⟨n, c, gs, rfl, h1, h2, h3, h4, hq⟩ := h
  unfold m_step_sums
  lcg_src
  lcg_sub
  rw [rgD_iota]
  refine comp_fn (mapG fun _ => 0) (by exact trivial) rfl _ _ (fun x hx N hN => ?_) ?_ ?_
  · obtain ⟨e, he, rfl⟩ := List.mem_map.mp hx
    lcg_sub
    exact hN
  · simp only [List.length_nil, List.length_map, iota_len]; omega
  rw [List.nil_append, mapG_all]
  lcg_sub
  refine loop_ints (fun xs Γ => ∃ (k : Nat) (c4 c5 : Sl), k + xs.length = n ∧ Γ = [.sh (cardD C_Card n gs), .sh (.int c), .sh (iL (iota n)), .ow (.lst (drows n gs c (k + 1))), c4, c5, .no, .no, .no] ∧ fr c4 = true ∧ fr c5 = true) ?_ ?_ ?_ _ _ ⟨0, .no, .no, by rw [iota_len]; omega, rfl, rfl, rfl⟩
  · intro xs Γ _; exact trivial
  · rintro Γ ⟨k, c4, c5, hk, rfl, f4, f5⟩
    rw [List.length_nil, Nat.add_zero] at hk
    subst hk
    lcg_sub
    exact hq
  · rintro x xs Γ M ⟨k, c4, c5, hk, rfl, f4, f5⟩ hM
    rw [List.length_cons] at hk
    have dl := drows_len n gs c (k + 1)
    have rl := drow_len n gs c k
    lcg_sub
    refine i_ix (at_drows1 gs c) ?_
    lcg_sub
    refine comp_fn (mapG fun e => dvS n gs c (k + 1) e.toNat) (by exact trivial) rfl _ _ (fun z hz N hN => ?_) ?_ ?_
    · obtain ⟨e, he, rfl⟩ := List.mem_map.mp hz
      obtain ⟨e0, e1'⟩ := mem_iota.mp he
      obtain ⟨m, rfl⟩ := Int.eq_ofNat_of_zero_le e0
      have hm : m < n := by omega
      lcg_sub
      refine comp_fn (mapG fun b => dvS n gs c k b.toNat + valC n gs c b m) (by exact trivial) rfl _ _ (fun w hw P hP => ?_) ?_ ?_
      · obtain ⟨b, hb, rfl⟩ := List.mem_map.mp hw
        obtain ⟨b0, b1⟩ := mem_iota.mp hb
        obtain ⟨j, rfl⟩ := Int.eq_ofNat_of_zero_le b0
        have hj : j < n := by omega
        have v1 := ig_drow gs c k hj
        have i1 : -((drow n gs c k).length : Int) ≤ j ∧ (j : Int) < (drow n gs c k).length := by omega
        lcg_sub
        refine i_Cvalue h1 h2 hj hm ?_
        lcg_sub
        rw [v1]
        exact hP
      · simp only [List.length_nil, List.length_map, iota_len]; omega
      · rw [List.nil_append, mapG_all]
        have hl : 0 < ((iota n).map fun b => dvS n gs c k b.toNat + valC n gs c b m).length := by rw [List.length_map, iota_len]; omega
        lcg_sub
        have hmn := least_min hleast hleast2
        have he : least = dvS n gs c (k + 1) m := by
          refine hmn.uniq ?_
          obtain ⟨a1, b, hb, a2⟩ := dvS_mp (n := n) (by omega) gs c k m hm
          exact ⟨fun x => a1 x.val x.isLt, ⟨b, hb⟩, a2⟩
        rw [he]
        exact hN
    · simp only [List.length_nil, List.length_map, iota_len]; omega
    · rw [List.nil_append, mapG_all]
      lcg_sub
      refine hM _ ⟨k + 1, .sh (.int x), .sh (iL (drow n gs c k)), by omega, ?_, rfl, rfl⟩
      unfold drows
      rw [List.range_succ (n := k + 1), List.map_append]; rfl
set_option maxHeartbeats 8000000 in
theorem v_rate {C_Card : Addr} (ds : List D) (Qd : Bool → D → List D → Prop) (Ed : EdT) (hl : ds.length = 2) (h : srate C_Card ds Qd Ed) : m_rate C_Card sleast_of sgreatest_of sfraction (sstep_sums C_Card) (sCard_size C_Card) (endsD [.S, .S] Qd) (startD ["card", "count", "size", "rows", "means", "end", "k"] [.S, .S] ds) := by
  obtain ⟨n, c, gs, rfl, h1, h3, h4, h5, hq⟩ := h
  unfold m_rate
  lcg_src
  lcg_sub
  refine i_inP (l := [0, (n : Int)]) ?_
  lcg_sub
  have one : FrB (0, 1) := ⟨by decide, by decide, by decide⟩
  refine e_dif (fun hc => ?_) (fun hc => ?_)
  · lcg_sub
    refine hq (0, 1) ?_ one (by dsimp only; omega) (by decide)
    simp only [List.mem_cons, List.not_mem_nil, or_false] at hc
    rcases hc with hc | hc
    · have : c = 0 := by omega
      subst this
      exact rate_none h3 gs
    · have : c = n := by omega
      subst this
      exact rate_all h3 gs
  · simp only [List.mem_cons, List.not_mem_nil, or_false] at hc
    have c1 : 1 ≤ c := by omega
    have c2 : c < n := by omega
    lcg_sub
    refine i_ssums c1 c2 h3 h4 ?_
    lcg_sub
    refine loop_rng n (fun i Γ => ∃ (k : Nat) (l : List (Int × Int)) (c5 : Sl), i = k ∧ l.length = k ∧ (∀ e (he : e < l.length), EndOk n gs c e l[e]) ∧ Γ = [.sh (cardD C_Card n gs), .sh (.int c), .sh (.int n), .sh (.lst (drows n gs c (n + 1))), .ow (.lst (l.map frD)), c5, .no] ∧ fr c5 = true) ?_ ?_ ?_ _ _ _ (by omega) ⟨0, [], .no, rfl, rfl, fun e he => absurd he (by simp), rfl, rfl⟩
    · intro i Γ _; exact trivial
    · rintro Γ ⟨k, l, c5, hk, hl, hE, rfl, f5⟩
      have hkn : k = n := by omega
      subst hkn
      have mm : ∀ x ∈ l, ∃ e, e < k ∧ EndOk k gs c e x := fun x hx => by
        obtain ⟨e, he, rfl⟩ := List.mem_iff_getElem.mp hx
        exact ⟨e, by omega, hE e he⟩
      lcg_sub
      refine i_leastof (by omega) (by omega) (fun x hx => (mm x hx).elim fun e h => h.2.fr) fun x hx hle => ?_
      lcg_sub
      obtain ⟨e0, he0, hx0⟩ := mm x hx
      refine hq x ?_ hx0.fr hx0.le hx0.b3
      refine rate_karp h3 h1 hx0.fr.pos hx0.low (fun e he => ?_) ⟨e0, he0, hx0.all⟩
      have hy := hE e (by omega)
      have hxy := hle _ (List.getElem_mem (by omega : e < l.length))
      generalize l[e] = y at hy hxy
      obtain ⟨j, hj, ej⟩ := hy.one
      refine ⟨j, hj, ?_⟩
      have hp := hy.fr.pos
      have a := Int.mul_le_mul_of_nonneg_right hxy (show 0 ≤ (k : Int) - j by omega)
      refine Int.le_of_mul_le_mul_right ?_ hp
      rw [Int.mul_right_comm, Int.mul_assoc x.2, Int.mul_comm (dvS k gs c k e - dvS k gs c j e), ← ej, ← Int.mul_assoc, Int.mul_comm x.2]
      exact a
    · rintro i Γ M hi ⟨k, l, c5, rfl, hll, hE, rfl, f5⟩ hM
      have hkn : k < n := by omega
      have dl := drows_len n gs c (n + 1)
      have hlm : (l.map frD).length < 100000 := by rw [List.length_map]; omega
      lcg_sub
      refine comp_inv (fun xs acc Γ => ∃ (j : Nat) (l' : List (Int × Int)), xs = (rgD 0 n).drop j ∧ j ≤ n ∧ acc = l'.map frD ∧ l'.length = j ∧ (∀ i (hi : i < l'.length), FrB l'[i] ∧ Int.gcd l'[i].1 l'[i].2 = 1 ∧ l'[i].2 ≤ n ∧ l'[i].1 * ((n : Int) - i) = l'[i].2 * (dvS n gs c n k - dvS n gs c i k) ∧ l'[i].1.natAbs < 2 ^ 208) ∧ Γ = [.sh (cardD C_Card n gs), .sh (.int c), .sh (.int n), .sh (.lst (drows n gs c (n + 1))), .ow (.lst (l.map frD)), .sh (.int k), .no]) ?_ ?_ ?_ _ _ _ ⟨0, [], rfl, by omega, rfl, rfl, fun i hi => absurd hi (by simp), rfl⟩
      · rintro xs acc Γ ⟨j, l', -, -, -, -, -, rfl⟩
        exact ⟨trivial, rfl⟩
      · rintro acc Γ ⟨j, l', hx, hj, rfl, hl', hA, rfl⟩
        have hjn : j = n := by
          have := congrArg List.length hx
          rw [List.length_nil, List.length_drop, rgD_iota, List.length_map, iota_len] at this
          omega
        subst hjn
        lcg_sub
        refine i_greatestof (by omega) (by omega) (fun x hx => ?_) fun x hx hge => ?_
        · obtain ⟨i, hi, rfl⟩ := List.mem_iff_getElem.mp hx
          exact (hA i hi).1
        have hE1 : EndOk j gs c k x := by
          obtain ⟨i, hi, rfl⟩ := List.mem_iff_getElem.mp hx
          obtain ⟨b1, b2, b3, b4, b5⟩ := hA i hi
          refine ⟨b1, b2, b3, ⟨i, by omega, b4⟩, fun m hm => ?_, b5⟩
          obtain ⟨d1, d2, d3, d4, -⟩ := hA m (by omega)
          have hym := hge _ (List.getElem_mem (by omega : m < l'.length))
          generalize l'[m] = y at *
          generalize l'[i] = x at *
          have hp := d1.pos
          refine Int.le_of_mul_le_mul_right ?_ hp
          have a := Int.mul_le_mul_of_nonneg_right hym (show 0 ≤ (j : Int) - m by omega)
          rw [Int.mul_assoc x.2, Int.mul_comm (dvS j gs c j k - dvS j gs c m k), ← d4, ← Int.mul_assoc, Int.mul_comm x.2, Int.mul_right_comm x.1]
          exact a
        lcg_sub
        refine hM _ ⟨k + 1, l ++ [x], .sh (.int k), by omega, by rw [List.length_append, hll]; rfl, fun e he => ?_, by rw [List.map_append]; rfl, rfl⟩
        rw [List.length_append, List.length_singleton] at he
        by_cases z : e < l.length
        · rw [List.getElem_append_left z]; exact hE e z
        · have : e = k := by omega
          subst this
          rw [List.getElem_append_right (by omega)]
          simp only [hll, Nat.sub_self, List.getElem_cons_zero]
          exact hE1
      · rintro y xs acc Γ N ⟨j, l', hx, hj, rfl, hl', hA, rfl⟩ hN
        have hjn : j < n := by
          have := congrArg List.length hx
          rw [List.length_cons, List.length_drop, rgD_iota, List.length_map, iota_len] at this
          omega
        rw [rgD_iota, ← List.map_drop, List.drop_eq_getElem_cons (by rw [iota_len]; exact hjn), List.map_cons] at hx
        injection hx with e1 e2
        have ej : (iota n)[j]'(by rw [iota_len]; exact hjn) = (j : Int) := by rw [← ig_get, ig_iota hjn]
        rw [ej] at e1
        subst e1
        have r1 := drow_len n gs c n
        have r2 := drow_len n gs c j
        have v1 := ig_drow gs c n hkn
        have v2 := ig_drow gs c j hkn
        have i1 : -((drow n gs c n).length : Int) ≤ k ∧ (k : Int) < (drow n gs c n).length := by omega
        have i2 : -((drow n gs c j).length : Int) ≤ k ∧ (k : Int) < (drow n gs c j).length := by omega
        lcg_sub
        refine i_ix (at_drows gs c (by omega)) ?_
        lcg_sub
        refine i_ix (at_drows gs c (by omega)) ?_
        lcg_sub
        rw [v1, v2]
        have w1 := dvS_abs h3 h1 gs n k hkn
        have w2 := dvS_abs h3 h1 gs j k hkn
        have w3 : n * (2 * n + gs.length) ≤ 12 * (24 + 2 ^ 200) := Nat.mul_le_mul h4 (by omega)
        have w4 : j * (2 * n + gs.length) ≤ 12 * (24 + 2 ^ 200) := Nat.mul_le_mul (by omega) (by omega)
        have w5 : (24 : Nat) * (24 + 2 ^ 200) < 2 ^ 1000 := by decide
        have w6 : (12 : Nat) < 2 ^ 1000 := by decide
        refine i_frac (by omega) (by omega) fun x hp hg he hle habs => ?_
        lcg_sub
        refine hN _ _ ⟨j + 1, l' ++ [x], by rw [rgD_iota, ← List.map_drop]; exact e2, by omega, by rw [List.map_append]; rfl, by rw [List.length_append, hl']; rfl, fun i hi => ?_, rfl⟩
        rw [List.length_append, List.length_singleton] at hi
        by_cases z : i < l'.length
        · rw [List.getElem_append_left z]; exact hA i z
        · have : i = j := by omega
          subst this
          rw [List.getElem_append_right (by omega)]
          simp only [hl', Nat.sub_self, List.getElem_cons_zero]
          refine ⟨⟨hp, ?_, ?_⟩, hg, by omega, by rw [he, Int.mul_comm], ?_⟩
          · generalize (2 : Nat) ^ 1000 = big at *
            omega
          · generalize (2 : Nat) ^ 1000 = big at *
            omega
          · have w7 : (24 : Nat) * (24 + 2 ^ 200) < 2 ^ 208 := by decide
            omega
set_option maxHeartbeats 8000000 in
theorem v_law_steps_right {C_Card : Addr} (ds : List D) (Qd : Bool → D → List D → Prop) (Ed : EdT) (hl : ds.length = 1) (h : slaw_steps_right C_Card ds Qd Ed) : m_law_steps_right C_Card (sCard_size C_Card) (srate C_Card) (endsD [.S] Qd) (startD ["_law_card", "_law_rates", "_law_count", "_law_both", "_law_low", "_law_here", "_law_high"] [.S] ds) := by
  obtain ⟨n, gs, rfl, h1, h2, hl, hq⟩ := h
  unfold m_law_steps_right
  lcg_src
  lcg_sub
  rw [show rngD 0 ((n : Int) + 1).toNat = (iota (n + 1)).map D.int from rgD_iota (n + 1)]
  refine comp_inv (fun xs acc Γ => ∃ k : Nat, xs = ((iota (n + 1)).drop k).map D.int ∧ k ≤ n + 1 ∧ acc = rtL n gs k ∧ (∀ c, c < k → RtOk n gs c) ∧ Γ = [.sh (cardD C_Card n gs), .no, .no, .no, .no, .no, .no]) ?_ ?_ ?_ _ _ _ ⟨0, rfl, by omega, rfl, fun c hc => absurd hc (by omega), rfl⟩
  · rintro xs acc Γ ⟨k, -, -, -, -, rfl⟩
    exact ⟨by exact trivial, rfl⟩
  rotate_left
  · rintro x xs acc Γ M ⟨k, hx, hk, rfl, hR, rfl⟩ hM
    have hk2 : k < n + 1 := by
      refine Nat.lt_of_not_le fun z => ?_
      rw [List.drop_eq_nil_of_le (by rw [iota_len]; omega)] at hx
      cases hx
    rw [List.drop_eq_getElem_cons (by rw [iota_len]; exact hk2), List.map_cons] at hx
    injection hx with e1 e2
    have e3 : (iota (n + 1))[k]'(by rw [iota_len]; exact hk2) = (k : Int) := by rw [← ig_get (by rw [iota_len]; exact hk2), ig_iota hk2]
    rw [e3] at e1
    subst e1 e2
    have hal : (rtL n gs k).length ≤ 100 := by unfold rtL; rw [List.length_map, List.length_range]; omega
    lcg_sub
    refine i_rate (by omega) h1 h2 hl fun x hx hB hn hb => ?_
    have ex := rateF_eq (by omega) hx
    lcg_sub
    refine hM _ _ ⟨k + 1, rfl, by omega, by unfold rtL; rw [List.range_succ, List.map_append, List.map_singleton, ex], fun c hc => ?_, rfl⟩
    by_cases hck : c < k
    · exact hR c hck
    · obtain rfl : c = k := by omega
      have hp := hx.pos
      exact ⟨by rw [ex]; exact hx, by rw [ex]; exact hb, by rw [ex]; omega⟩
  rintro acc Γ ⟨k, hx, hk, rfl, hR, rfl⟩
  obtain rfl : k = n + 1 := by
    refine Nat.le_antisymm hk (Nat.le_of_not_lt fun z => ?_)
    rw [List.drop_eq_getElem_cons (by rw [iota_len]; exact z)] at hx
    cases hx
  lcg_sub
  refine loop_rng n (fun i Γ => ∃ (c : Nat) (c2 c3 c4 c5 c6 : Sl), i = c ∧ 1 ≤ c ∧ Γ = [.sh (cardD C_Card n gs), .sh (.lst (rtL n gs (n + 1))), c2, c3, c4, c5, c6] ∧ (fr c2 = true ∧ fr c3 = true ∧ fr c4 = true ∧ fr c5 = true ∧ fr c6 = true)) ?_ ?_ ?_ _ _ _ (by omega) ⟨1, .no, .no, .no, .no, .no, rfl, by omega, rfl, ⟨rfl, rfl, rfl, rfl, rfl⟩⟩
  · intro i Γ _; exact trivial
  · rintro Γ ⟨c, c2, c3, c4, c5, c6, -, -, rfl, -⟩
    lcg_sub
    exact hq
  · rintro i Γ M hi ⟨c, c2, c3, c4, c5, c6, rfl, hc1, rfl, ⟨f2, f3, f4, f5, f6⟩⟩ hM
    have hcn : c < n := by omega
    have e1 : (c : Int) - 1 = ((c - 1 : Nat) : Int) := by omega
    have e2 : (c : Int) + 1 = ((c + 1 : Nat) : Int) := by omega
    have r1 := hR (c - 1) (by omega)
    have r2 := hR c (by omega)
    have r3 := hR (c + 1) (by omega)
    have hcc := rate_conc (by omega) hc1 r1.ok r2.ok r3.ok
    lcg_sub
    rw [e1]
    refine i_ix (at_rt (by omega)) ?_
    lcg_sub
    refine i_ix (at_rt (by omega)) ?_
    lcg_sub
    rw [e2]
    refine i_ix (at_rt (by omega)) ?_
    have x1 := r1.b1; have x2 := r1.b2
    have y1 := r2.b1; have y2 := r2.b2
    have z1 := r3.b1; have z2 := r3.b2
    generalize rateF n gs (c - 1) = x at *
    generalize rateF n gs c = y at *
    generalize rateF n gs (c + 1) = z at *
    have pb : ∀ {a b : Int} {p q : Nat}, a.natAbs < 2 ^ p → b.natAbs < 2 ^ q → (a * b).natAbs < 2 ^ (p + q) := fun {a b p q} h1 h2 => by
      rw [Int.natAbs_mul, Nat.pow_add]
      exact Nat.mul_lt_mul'' h1 h2
    have m1 : DL.MulOk x.1 z.2 := mulW x1 z2 (by decide) (by decide) (by decide)
    have m2 : DL.MulOk z.1 x.2 := mulW z1 x2 (by decide) (by decide) (by decide)
    have y3 : (2 * y.1).natAbs < 2 ^ (2 + 208) := pb (by decide) y1
    have m3 : DL.MulOk (2 * y.1) x.2 := mulW y3 x2 (by decide) (by decide) (by decide)
    have y4 := pb y3 x2
    have m4 : DL.MulOk (2 * y.1 * x.2) z.2 := mulW y4 z2 (by decide) (by decide) (by decide)
    have w1 := pb x1 z2
    have w2 := pb z1 x2
    have w3 : (x.1 * z.2 + z.1 * x.2).natAbs < 2 ^ 213 := by
      have : (2 : Nat) ^ (208 + 4) + 2 ^ (208 + 4) = 2 ^ 213 := by decide
      omega
    have m5 : DL.MulOk (x.1 * z.2 + z.1 * x.2) y.2 := mulW w3 y2 (by decide) (by decide) (by decide)
    unfold frD
    lcg_sub
    · exact hM _ ⟨c + 1, _, _, _, _, _, by omega, by omega, rfl, ⟨rfl, rfl, rfl, rfl, rfl⟩⟩
    all_goals first | exact m1 | exact m2 | exact m3 | exact m4 | exact m5 | skip
set_option maxHeartbeats 4000000 in
theorem v_law_is_less (ds : List D) (Qd : Bool → D → List D → Prop) (Ed : EdT) (hl : ds.length = 2) (h : slaw_is_less ds Qd Ed) : m_law_is_less (endsD [.S, .S] Qd) (startD ["_law_one", "_law_other"] [.S, .S] ds) := by
  obtain ⟨x, y, rfl, hx, hy, hq⟩ := h
  unfold m_law_is_less frD
  lcg_src
  have m1 := hx.mul hy
  have m2 := hy.mul hx
  lcg_sub
  · exact hq
  · exact m1
  · exact m2
set_option maxHeartbeats 4000000 in
theorem v_law_order_right (ds : List D) (Qd : Bool → D → List D → Prop) (Ed : EdT) (hl : ds.length = 2) (h : slaw_order_right ds Qd Ed) : m_law_order_right slaw_is_less (endsD [.S, .S] Qd) (startD ["_law_ranks_here", "_law_laps", "_law_one", "_law_other"] [.S, .S] ds) := by
  obtain ⟨n, gs, r, rfl, hr, h1, h2, hL, hq⟩ := h
  unfold m_law_order_right
  lcg_src
  lcg_sub
  refine loop_rng (r.length : Nat) (fun i Γ => ∃ (k : Nat) (c2 c3 : Sl), i = k ∧ Γ = [.sh (iL r), .sh (.lst ((r.map (lapF n gs r)).map frD)), c2, c3] ∧ fr c2 = true ∧ fr c3 = true) ?_ ?_ ?_ _ _ _ (by simp) ⟨0, .no, .no, rfl, rfl, rfl, rfl⟩
  · intro i Γ _; exact trivial
  · rintro Γ ⟨k, c2, c3, -, rfl, -, -⟩
    lcg_sub
    exact hq
  · rintro i Γ M hi ⟨k, c2, c3, rfl, rfl, f2, f3⟩ hM
    have hk : k < r.length := by omega
    lcg_sub
    refine loop_rng (r.length : Nat) (fun i Γ => ∃ (j : Nat) (c3 : Sl), i = j ∧ Γ = [.sh (iL r), .sh (.lst ((r.map (lapF n gs r)).map frD)), .sh (.int k), c3] ∧ fr c3 = true) ?_ ?_ ?_ _ _ _ (by simp) ⟨0, c3, rfl, rfl, f3⟩
    · intro i Γ _; exact trivial
    · rintro Γ ⟨j, c3, -, rfl, f3⟩
      exact hM _ ⟨k + 1, _, _, by omega, rfl, rfl, f3⟩
    · rintro i Γ N hi ⟨j, c3, rfl, rfl, f3⟩ hN
      have hj : j < r.length := by omega
      have b1 : -(r.length : Int) ≤ k ∧ (k : Int) < r.length := by omega
      have b2 : -(r.length : Int) ≤ j ∧ (j : Int) < r.length := by omega
      obtain ⟨hL1, hB1⟩ := hL _ (List.getElem_mem hk)
      obtain ⟨hL2, hB2⟩ := hL _ (List.getElem_mem hj)
      lcg_sub
      rw [ig_get hk, ig_get hj]
      by_cases hle : r[j] ≤ r[k]
      · refine e_dT hle ?_
        lcg_sub
        refine i_ix (at_lap _ hk) ?_
        lcg_sub
        refine i_ix (at_lap _ hj) ?_
        lcg_sub
        refine i_lless hB1 hB2 ?_
        rw [decide_eq_false (by have := lap_order (by omega) hr hL1 hL2 hle; omega)]
        lcg_sub
        exact hN _ ⟨j + 1, _, by omega, rfl, rfl⟩
      · refine e_dF hle ?_
        lcg_sub
        exact hN _ ⟨j + 1, _, by omega, rfl, rfl⟩
set_option maxHeartbeats 4000000 in
theorem v_Ring_ranks {C_Ring : Addr} (ds : List D) (Qd : Bool → D → List D → Prop) (Ed : EdT) (hl : ds.length = 1) (h : sRing_ranks C_Ring ds Qd Ed) : m_Ring_ranks C_Ring (endsD [.S] Qd) (startD ["self"] [.S] ds) := by
  obtain ⟨l, rfl, hq⟩ := h
  unfold m_Ring_ranks
  lcg_src
  lcg_sub
  exact hq
set_option maxHeartbeats 8000000 in
theorem v_lap_rates {C_Card C_Ring : Addr} (ds : List D) (Qd : Bool → D → List D → Prop) (Ed : EdT) (hl : ds.length = 2) (h : slap_rates C_Card C_Ring ds Qd Ed) : m_lap_rates C_Ring (sRing_ranks C_Ring) sfraction (srate C_Card) (endsD [.S, .S] Qd) (startD ["card", "ring", "found", "rank", "stronger", "several", "low", "high", "other"] [.S, .S] ds) := by
  obtain ⟨n, gs, r, rfl, hr, h1, h2, hl, hq⟩ := h
  unfold m_lap_rates
  lcg_src
  lcg_sub
  refine loop_ints (fun xs Γ => ∃ (a : List Int) (c3 c4 c5 c6 c7 : Sl), r = a ++ xs ∧ (∀ t ∈ a, LpOk n gs r t ∧ LapB (lapF n gs r t)) ∧ Γ = [.sh (cardD C_Card n gs), .sh (ringD C_Ring r), .ow (.lst ((a.map (lapF n gs r)).map frD)), c3, c4, c5, c6, c7, .no] ∧ fr c3 = true ∧ fr c4 = true ∧ fr c5 = true ∧ fr c6 = true ∧ fr c7 = true) ?_ ?_ ?_ _ _ ⟨[], .no, .no, .no, .no, .no, rfl, fun t ht => absurd ht (by simp), rfl, rfl, rfl, rfl, rfl, rfl⟩
  · intro xs Γ _; exact trivial
  · rintro Γ ⟨a, c3, c4, c5, c6, c7, ha, hA, rfl, f3, f4, f5, f6, f7⟩
    rw [List.append_nil] at ha
    subst ha
    lcg_sub
    exact hq hA
  · rintro t xs Γ M ⟨a, c3, c4, c5, c6, c7, ha, hA, rfl, f3, f4, f5, f6, f7⟩ hM
    have htm : t ∈ r := by rw [ha]; exact List.mem_append_right _ (List.mem_cons_self ..)
    have hcp : 0 < r.count t := List.count_pos_iff.mpr htm
    have hgc := gt_count r t
    have hal : a.length ≤ n := by rw [← hr, ha, List.length_append]; omega
    have hll : ((a.map (lapF n gs r)).map frD).length < 100000 := by rw [List.length_map, List.length_map]; omega
    lcg_sub
    refine comp_fn (oneG t) (by exact trivial) rfl _ _ (fun z hz P hP => ?_) ?_ ?_
    · obtain ⟨x, hx, rfl⟩ := List.mem_map.mp hz
      have hP : P (if t < x then some (.int 1) else none) _ := hP
      by_cases hc : t < x
      · rw [if_pos hc] at hP
        lcg_sub
        exact hP
      · rw [if_neg hc] at hP
        lcg_sub
        exact hP
    · simp only [List.length_nil, List.length_map]; omega
    · rw [List.nil_append]
      lcg_sub
      rw [oneG_len]
      refine i_rate (by omega) h1 h2 hl fun lo hlo hloB hlon hlob => ?_
      lcg_sub
      rw [show ((gtN r t : Nat) : Int) + (r.count t : Nat) = ((gtN r t + r.count t : Nat) : Int) by omega]
      refine i_rate (by omega) h1 h2 hl fun hi hhi hhiB hhin hhib => ?_
      have m1 := mulB hhiB.b1 hloB.b2
      have m2 := mulB hloB.b1 hhiB.b2
      have m3 := mulB hhiB.b2 hloB.b2
      have p1 := hlo.pos
      have p2 := hhi.pos
      have q1 : 0 < hi.2 * lo.2 := Int.mul_pos p2 p1
      have q2 : hi.2 * lo.2 ≤ 12 * 12 := Int.mul_le_mul (by omega) (by omega) (by omega) (by omega)
      have q3 : hi.2 * lo.2 * (r.count t : Nat) ≤ 144 * 12 := Int.mul_le_mul (by omega) (by omega) (by omega) (by omega)
      have q4 : 0 < hi.2 * lo.2 * (r.count t : Nat) := Int.mul_pos q1 (by omega)
      have m4 : DL.MulOk (hi.2 * lo.2) (r.count t : Nat) := mulW (a := 8) (b := 8) (by omega) (by omega) (by decide) (by decide) (by decide)
      have hlap : ∀ x : Int × Int, 0 < x.2 → Int.gcd x.1 x.2 = 1 → x.1 * (hi.2 * lo.2 * (r.count t : Nat)) = (hi.1 * lo.2 - lo.1 * hi.2) * x.2 → lapF n gs r t = x := fun x e1 e2 e3 => by
        unfold lapF
        rw [rateF_eq (by omega) hlo, rateF_eq (by omega) hhi]
        exact (frF_eq q4 e1 e2 e3).symm
      have hbnd : (hi.1 * lo.2 - lo.1 * hi.2).natAbs < 2 ^ 220 := by
        have b1 : (hi.1 * lo.2).natAbs ≤ 2 ^ 208 * 12 := by rw [Int.natAbs_mul]; exact Nat.mul_le_mul (Nat.le_of_lt hhib) (by omega)
        have b2 : (lo.1 * hi.2).natAbs ≤ 2 ^ 208 * 12 := by rw [Int.natAbs_mul]; exact Nat.mul_le_mul (Nat.le_of_lt hlob) (by omega)
        have b3 : 2 ^ 208 * 12 + 2 ^ 208 * 12 < (2 : Nat) ^ 220 := by decide
        omega
      have hOk : LpOk n gs r t := by
        refine ⟨?_, ?_, hcp⟩
        · rw [rateF_eq (by omega) hlo]; exact hlo
        · rw [rateF_eq (by omega) hhi]; exact hhi
      unfold frD
      lcg_sub
      · refine i_frac q4 (Int.lt_of_le_of_lt q3 (by decide)) fun x e1 e2 e3 e4 e5 => ?_
        have ex := hlap x e1 e2 e3
        unfold frD at *
        lcg_sub
        refine hM _ ⟨a ++ [t], .sh (.int t), .sh (.int (gtN r t : Nat)), .sh (.int (r.count t : Nat)), .sh (.tup [.int lo.1, .int lo.2]), .sh (.tup [.int hi.1, .int hi.2]), by rw [ha, List.append_assoc]; rfl, fun u hu => ?_, ?_, rfl, rfl, rfl, rfl, rfl⟩
        · rcases List.mem_append.mp hu with hu | hu
          · exact hA u hu
          · rw [List.mem_singleton.mp hu, ex]
            exact ⟨hOk, Nat.lt_of_le_of_lt e5 hbnd, e1, by omega⟩
        · rw [List.map_append, List.map_append, List.map_singleton, ex]
          rfl
set_option maxHeartbeats 4000000 in
theorem v_is_integer (ds : List D) (Qd : Bool → D → List D → Prop) (Ed : EdT) (hl : ds.length = 1) (h : sis_integer ds Qd Ed) : m_is_integer (endsD [.S] Qd) (startD ["thing"] [.S] ds) := by
  obtain ⟨d, rfl, hd, hq⟩ := h
  unfold m_is_integer
  lcg_src
  cases d with
  | obj C ns ds => cases hd
  | cls C => cases hd
  | xcl C n => cases hd
  | dtl kvs => cases hd
  | pnK o vs => cases hd
  | pnT o vs => cases hd
  | _ =>
    lcg_sub
    exact hq
set_option maxHeartbeats 4000000 in
theorem v_is_between (ds : List D) (Qd : Bool → D → List D → Prop) (Ed : EdT) (hl : ds.length = 3) (h : sis_between ds Qd Ed) : m_is_between sis_integer (endsD [.S, .S, .S] Qd) (startD ["thing", "least", "most"] [.S, .S, .S] ds) := by
  obtain ⟨d, lo, hi, rfl, hd, hq⟩ := h
  unfold m_is_between
  lcg_src
  lcg_sub
  refine i_isint hd ?_
  cases d with
  | int i =>
    have hq : Qd false (.bl (decide (lo ≤ i) && decide (i ≤ hi))) [] := hq
    show ptk _ _ _ false (.bl true) []
    lcg_sub
    refine e_ite (fun h1 => ?_) (fun h1 => ?_)
    · rw [h1] at hq
      lcg_sub
      exact hq
    · rw [h1] at hq
      lcg_sub
      exact hq
  | _ =>
    have hq : Qd false (.bl false) [] := hq
    show ptk _ _ _ false (.bl false) []
    lcg_sub
    exact hq
set_option maxHeartbeats 4000000 in
theorem v_is_size (ds : List D) (Qd : Bool → D → List D → Prop) (Ed : EdT) (hl : ds.length = 1) (h : sis_size ds Qd Ed) : m_is_size sis_between (endsD [.S] Qd) (startD ["thing"] [.S] ds) := by
  obtain ⟨d, rfl, hd, hq⟩ := h
  unfold m_is_size
  lcg_src
  lcg_sub
  refine i_btw hd ?_
  lcg_sub
  exact hq
set_option maxHeartbeats 4000000 in
theorem v_Ring___init__ {C_Ring : Addr} (ds : List D) (Qd : Bool → D → List D → Prop) (Ed : EdT) (hl : ds.length = 2) (h : sRing___init__ C_Ring ds Qd Ed) : m_Ring___init__ C_Ring sis_integer sis_size (endsD [.M, .S] Qd) (startD ["self", "ranks", "rank"] [.M, .S] ds) := by
  obtain ⟨l, rfl, h1, h2, hq⟩ := h
  unfold m_Ring___init__
  lcg_src
  lcg_sub
  refine comp_fn (fun _ => some (.bl true)) (by first | exact trivial | rfl) rfl _ _ (fun x hx N hN => ?_) ?_ ?_
  · obtain ⟨i, _, rfl⟩ := List.mem_map.mp hx
    lcg_sub
    exact hN
  · simp only [List.length_nil, List.length_map]; omega
  · rw [List.nil_append, all_true]
    lcg_sub
    rw [rep_true]
    lcg_sub
    exact hq
set_option maxHeartbeats 4000000 in
theorem v_Card___init__ {C_Card : Addr} (ds : List D) (Qd : Bool → D → List D → Prop) (Ed : EdT) (hl : ds.length = 3) (h : sCard___init__ C_Card ds Qd Ed) : m_Card___init__ C_Card (endsD [.M, .S, .S] Qd) (startD ["self", "places", "tables"] [.M, .S, .S] ds) := by
  obtain ⟨p, t, rfl, hq⟩ := h
  unfold m_Card___init__
  lcg_src
  lcg_sub
  exact hq
set_option maxHeartbeats 4000000 in
theorem v_Ring_strong {C_Ring : Addr} (ds : List D) (Qd : Bool → D → List D → Prop) (Ed : EdT) (hl : ds.length = 2) (h : sRing_strong C_Ring ds Qd Ed) : m_Ring_strong C_Ring (endsD [.S, .S] Qd) (startD ["self", "bound", "place", "rank"] [.S, .S] ds) := by
  obtain ⟨l, b, rfl, h1, hq⟩ := h
  unfold m_Ring_strong
  lcg_src
  lcg_sub
  refine comp_fn (sG b) (by exact trivial) rfl _ _ (fun x hx N hN => ?_) ?_ ?_
  · obtain ⟨i, r, rfl⟩ := mem_enumD l 0 hx
    lcg_off
    · rw [sG_T hcond] at hN; exact hN
    · rw [sG_F hcond] at hN; exact hN
  · rw [enumD_len, List.length_map]; simp only [List.length_nil]; omega
  · rw [List.nil_append, sG_all]
    lcg_sub
    exact hq
set_option maxHeartbeats 4000000 in
theorem v_Ring_size {C_Ring : Addr} (ds : List D) (Qd : Bool → D → List D → Prop) (Ed : EdT) (hl : ds.length = 1) (h : sRing_size C_Ring ds Qd Ed) : m_Ring_size C_Ring (endsD [.S] Qd) (startD ["self"] [.S] ds) := by
  obtain ⟨l, rfl, hq⟩ := h
  unfold m_Ring_size
  lcg_src
  lcg_sub
  exact hq
set_option maxHeartbeats 4000000 in
theorem v_Ring_up_to {C_Ring : Addr} (ds : List D) (Qd : Bool → D → List D → Prop) (Ed : EdT) (hl : ds.length = 3) (h : sRing_up_to C_Ring ds Qd Ed) : m_Ring_up_to C_Ring (sRing_strong C_Ring) (sRing_size C_Ring) (endsD [.S, .S, .S] Qd) (startD ["self", "bound", "gap", "strong", "laps", "place", "other"] [.S, .S, .S] ds) := by
  obtain ⟨l, b, g, rfl, h1, h2, hq⟩ := h
  unfold m_Ring_up_to
  lcg_src
  have hs := sF_len b l 0
  have hs2 : (strongL l b).length ≤ l.length := by unfold strongL; rw [hs]; exact List.countP_le_length
  have m1 : (0 : Int) < l.length := by omega
  have m2 : (l.length : Int) < 2 ^ 30 := by omega
  lcg_sub
  refine comp_fn (leG (g % l.length)) (by exact trivial) rfl _ _ (fun x hx N hN => ?_) ?_ ?_
  · obtain ⟨i, _, rfl⟩ := List.mem_map.mp hx
    lcg_off
    · rw [leG_T hcond] at hN; exact hN
    · rw [leG_F hcond] at hN; exact hN
  · rw [List.length_map]; simp only [List.length_nil]; omega
  · rw [List.nil_append, leG_all]
    lcg_sub
    unfold strongL
    rw [sF_upto, hs]
    have e : (g % (l.length : Int) - 0 + 1).toNat = (g % (l.length : Int)).toNat + 1 := by
      have := Int.emod_nonneg g (show (l.length : Int) ≠ 0 by omega)
      omega
    rw [e]
    exact hq
set_option maxHeartbeats 4000000 in
theorem v_levels_after (ds : List D) (Qd : Bool → D → List D → Prop) (Ed : EdT) (hl : ds.length = 3) (h : slevels_after ds Qd Ed) : m_levels_after (endsD [.S, .S, .S] Qd) (startD ["levels", "count", "schedule", "gap", "size", "now", "before", "after"] [.S, .S, .S] ds) := by
  obtain ⟨n, c, l, gs, rfl, hl, h1, h2, hs, hq⟩ := h
  subst hl
  unfold m_levels_after
  lcg_src
  lcg_sub
  refine loop_ints (fun xs Γ => ∃ (H : Int → Int) (xs' : List Int) (c3 c6 c7 : Sl), xs' = xs ∧ Γ = [.sh (iL l), .sh (.int c), .sh (iL gs), c3, .sh (.int l.length), .ow (iL ((iota l.length).map H)), c6, c7] ∧ fr c3 = true ∧ fr c6 = true ∧ fr c7 = true ∧ LpB l.length c H ∧ Sch l.length xs ∧ ruH l.length xs H = ruH l.length gs (extH l.length c l)) ?_ ?_ ?_ _ _ ⟨extH l.length c l, gs, .no, .no, .no, rfl, by rw [extH_list rfl], rfl, rfl, rfl, extH_lap (by omega) c l, hs, rfl⟩
  · intro xs Γ _; first | exact trivial | (rename_i hSRC; revert hSRC; simp only [forall_exists_index, and_imp]; intros; subst_vars; rfl)
  · rintro Γ ⟨H, _, c3, c6, c7, _, rfl, f3, f6, f7, L, -, h3⟩
    have h3 : H = ruH l.length gs (extH l.length c l) := h3
    lcg_sub
    rw [h3]
    exact hq
  · rintro x xs Γ M ⟨H, xs', c3, c6, c7, hx, rfl, f3, f6, f7, L, hsx, h3⟩ hM
    obtain ⟨g0, g1⟩ := hsx.mem x (List.mem_cons_self ..)
    obtain ⟨k, rfl⟩ := Int.eq_ofNat_of_zero_le g0
    have hk : k < l.length := by omega
    have hs2 : Sch l.length xs := ⟨fun y hy => hsx.mem y (List.mem_cons_of_mem _ hy)⟩
    have h3 : ruH l.length xs (stH l.length k H) = ruH l.length gs (extH l.length c l) := h3
    have hm := map_stH hk H
    have hll : ((iota l.length).map H).length = l.length := by rw [List.length_map, iota_len]
    have i0 : -(((iota l.length).map H).length : Int) ≤ k ∧ (k : Int) < ((iota l.length).map H).length := by omega
    have i1 : -(((iota l.length).map H).length : Int) ≤ (k : Int) - 1 ∧ (k : Int) - 1 < ((iota l.length).map H).length := by omega
    have i3 : -(((iota l.length).map H).length : Int) ≤ -1 ∧ (-1 : Int) < ((iota l.length).map H).length := by omega
    have i4 : -(((iota l.length).map H).length : Int) ≤ 0 ∧ (0 : Int) < ((iota l.length).map H).length := by omega
    have fin : ∀ c3 c6 c7 : Sl, fr c3 = true → fr c6 = true → fr c7 = true → M [.sh (iL l), .sh (.int c), .sh (iL gs), c3, .sh (.int l.length), .ow (iL ((iota l.length).map (stH l.length k H))), c6, c7] := fun c3 c6 c7 q3 q6 q7 => hM _ ⟨_, xs, c3, c6, c7, rfl, rfl, q3, q6, q7, L.st k, hs2, h3⟩
    rw [hm] at fin
    -- the level before
    have b1 : 0 < k → ig ((iota l.length).map H) ((k : Int) - 1) = H ((k : Int) - 1) := fun hk0 => by
      rw [show (k : Int) - 1 = ((k - 1 : Nat) : Int) by omega, ig_ext_map _ (by omega)]
    have b0 : k = 0 → ig ((iota l.length).map H) (-1) + c = H ((k : Int) - 1) := fun hk0 => by
      have := L (-1)
      rw [show (k : Int) - 1 = -1 by omega, ig_neg1 (by omega), hll, ig_ext_map _ (by omega), show ((l.length - 1 : Nat) : Int) = -1 + l.length by omega, this]; omega
    have a1 : k + 1 < l.length → ig ((iota l.length).map H) ((k : Int) + 1) = H ((k : Int) + 1) := fun hk1 => by
      rw [show (k : Int) + 1 = ((k + 1 : Nat) : Int) by omega, ig_ext_map _ hk1]
    have a0 : k + 1 = l.length → ig ((iota l.length).map H) 0 - c = H ((k : Int) + 1) := fun hk1 => by
      have e0 : ig ((iota l.length).map H) ((0 : Nat) : Int) = H ((0 : Nat) : Int) := ig_ext_map _ (by omega)
      have := L 0
      rw [show (0 : Int) + l.length = (k : Int) + 1 by omega] at this
      rw [this]
      exact congrArg (· - c) e0
    by_cases hk0 : 0 < k
    · have b1 := b1 hk0
      by_cases hk1 : k + 1 < l.length
      · have a1 := a1 hk1
        have i2 : -(((iota l.length).map H).length : Int) ≤ (k : Int) + 1 ∧ (k : Int) + 1 < ((iota l.length).map H).length := by omega
        lcg_sub
        rw [b1, a1]
        exact fin _ _ _ rfl rfl rfl
      · have a0 := a0 (by omega)
        lcg_sub
        rw [b1, a0]
        exact fin _ _ _ rfl rfl rfl
    · have b0 := b0 (by omega)
      by_cases hk1 : k + 1 < l.length
      · have a1 := a1 hk1
        have i2 : -(((iota l.length).map H).length : Int) ≤ (k : Int) + 1 ∧ (k : Int) + 1 < ((iota l.length).map H).length := by omega
        lcg_sub
        rw [b0, a1]
        exact fin _ _ _ rfl rfl rfl
      · omega
set_option maxHeartbeats 4000000 in
theorem v_Ring_block {C_Ring : Addr} (ds : List D) (Qd : Bool → D → List D → Prop) (Ed : EdT) (hl : ds.length = 4) (h : sRing_block C_Ring ds Qd Ed) : m_Ring_block C_Ring (sRing___init__ C_Ring) (endsD [.S, .S, .S, .S] Qd) (startD ["cls", "size", "count", "last", "strong", "step", "place"] [.S, .S, .S, .S] ds) := by
  obtain ⟨n, c, x, rfl, h1, h2, h3, hq⟩ := h
  unfold m_Ring_block
  lcg_src
  lcg_sub
  refine comp_fn (mapG fun s => (x - s) % n) (by exact trivial) rfl _ _ (fun y hy M hM => ?_) ?_ ?_
  · obtain ⟨i, hi, rfl⟩ := List.mem_map.mp hy
    lcg_sub
    exact hM
  · simp only [List.length_nil, rngD, List.length_map, List.length_range]; omega
  · have e : ((List.range (c : Int).toNat).map fun (i : Nat) => (0 : Int) + (i : Int)) = iota c := List.map_congr_left fun i _ => by omega
    rw [List.nil_append, rngD_ints, mapG_all, e]
    lcg_sub
    refine comp_fn (mapG fun p => if (x - p) % (n : Int) < c then 1 else 0) (by exact trivial) rfl _ _ (fun y hy M hM => ?_) ?_ ?_
    · obtain ⟨i, hi, rfl⟩ := List.mem_map.mp hy
      have hi := List.mem_range.mp hi
      have e0 : (0 : Int) + (i : Int) = i := by omega
      rw [e0]
      rw [e0] at hM
      have hM : M (some (.int (if (x - i) % (n : Int) < c then 1 else 0))) _ := hM
      have hm := blk_mem (n := n) (by omega) (c := c) (x := x) (p := i) (by omega) (by omega) (by omega)
      lcg_sub
      refine ⟨okE_int _, okE_ints _, ?_⟩
      rw [anyE_ints]
      by_cases hc : (x - i) % (n : Int) < c
      · rw [if_pos hc] at hM
        rw [decide_eq_true (hm.mpr hc)]
        lcg_sub
        exact hM
      · rw [if_neg hc] at hM
        rw [decide_eq_false fun z => hc (hm.mp z)]
        lcg_sub
        exact hM
    · simp only [List.length_nil, rngD, List.length_map, List.length_range]; omega
    · have e : ((List.range (n : Int).toNat).map fun (i : Nat) => (0 : Int) + (i : Int)) = iota n := List.map_congr_left fun i _ => by omega
      rw [List.nil_append, rngD_ints, mapG_all, e]
      have eb : (iota n).map (fun p => if (x - p) % (n : Int) < c then (1 : Int) else 0) = blk n c x := rfl
      rw [eb]
      have hl := blk_len n c x
      lcg_sub
      exact hq
set_option maxHeartbeats 4000000 in
theorem v_block_values {C_Ring : Addr} (ds : List D) (Qd : Bool → D → List D → Prop) (Ed : EdT) (hl : ds.length = 4) (h : sblock_values C_Ring ds Qd Ed) : m_block_values C_Ring (sRing_up_to C_Ring) slevels_after (sRing_block C_Ring) (endsD [.S, .S, .S, .S] Qd) (startD ["size", "count", "begin", "schedule", "block", "levels", "level", "gap"] [.S, .S, .S, .S] ds) := by
  obtain ⟨n, c, x, gs, rfl, h1, h2, h3, hs, hq⟩ := h
  unfold m_block_values
  lcg_src
  lcg_sub
  refine i_Rblock h1 h2 h3 ?_
  have hb := blk_len n c x
  lcg_sub
  refine comp_fn (mapG fun g => 0 - upTo (blk n c x) 1 g) (by exact trivial) rfl _ _ (fun y hy M hM => ?_) ?_ ?_
  · obtain ⟨i, hi, rfl⟩ := List.mem_map.mp hy
    lcg_sub
    exact hM
  · simp only [List.length_nil, rngD, List.length_map, List.length_range]; omega
  · have e : ((List.range (n : Int).toNat).map fun (i : Nat) => (0 : Int) + (i : Int)) = iota n := List.map_congr_left fun i _ => by omega
    rw [List.nil_append, rngD_ints, mapG_all, e]
    lcg_sub
    refine i_lafter (by rw [List.length_map, iota_len]) h1 (by omega) hs ?_
    have hv : ∀ g, ruH n gs (extH n c ((iota n).map fun g => 0 - upTo (blk n c x) 1 g)) g = valC n gs c x g - upTo (blk n c x) 1 x := fun g => by
      have hf : (fun g => 0 - upTo (blk n c x) 1 g) = fun g => -upTo (blk n c x) 1 x + blF n c x g := by
        funext g
        rw [blF_upTo (by omega) h3]; omega
      have L : LpB n c (fun g => 0 - upTo (blk n c x) 1 g) := fun g => by
        have := blF_lap (n := n) (by omega) c x g
        rw [blF_upTo (by omega) h3, blF_upTo (by omega) h3] at this
        show 0 - upTo (blk n c x) 1 (g + n) = 0 - upTo (blk n c x) 1 g - c
        omega
      rw [extH_map (by omega) L, hf, ruH_add]
      show -upTo (blk n c x) 1 x + ruH n gs (blF n c x) g = ruH n gs (blF n c x) g - upTo (blk n c x) 1 x
      omega
    lcg_sub
    refine comp_fn (mapG fun v => v + upTo (blk n c x) 1 x) (by exact trivial) rfl _ _ (fun y hy M hM => ?_) ?_ ?_
    · obtain ⟨i, hi, rfl⟩ := List.mem_map.mp hy
      lcg_sub
      exact hM
    · simp only [List.length_nil, List.length_map, iota_len]; omega
    · rw [List.nil_append, mapG_all]
      have e2 : ((iota n).map (ruH n gs (extH n c ((iota n).map fun g => 0 - upTo (blk n c x) 1 g)))).map (fun v => v + upTo (blk n c x) 1 x) = rowL n gs c x := by
        rw [List.map_map]
        refine List.map_congr_left fun g _ => ?_
        show ruH n gs (extH n c ((iota n).map fun g => 0 - upTo (blk n c x) 1 g)) g + _ = _
        rw [hv]; omega
      rw [e2]
      lcg_sub
      exact hq
set_option maxHeartbeats 4000000 in
theorem v_card_of {C_Card C_Ring : Addr} (ds : List D) (Qd : Bool → D → List D → Prop) (Ed : EdT) (hl : ds.length = 2) (h : scard_of C_Card C_Ring ds Qd Ed) : m_card_of C_Card (sCard___init__ C_Card) (sblock_values C_Ring) (endsD [.S, .S] Qd) (startD ["size", "schedule", "tables", "count", "begin"] [.S, .S] ds) := by
  obtain ⟨n, gs, rfl, h1, h2, hs, hq⟩ := h
  unfold m_card_of
  lcg_src
  lcg_sub
  refine loop_rng n (fun i Γ => ∃ (k : Nat) (c3 : Sl), i = k ∧ 1 ≤ k ∧ Γ = [.sh (.int n), .sh (iL gs), .ow (.lst ((List.range (k - 1)).map fun j => .lst (tabL n gs (j + 1)))), c3, .no] ∧ fr c3 = true) ?_ ?_ ?_ _ _ _ (by omega) ⟨1, .no, rfl, by omega, rfl, rfl⟩
  · intro i Γ _; exact trivial
  · rintro Γ ⟨k, c3, hk, hk1, rfl, f3⟩
    obtain rfl : k = n := by omega
    lcg_sub
    exact hq
  · rintro i Γ N hi ⟨k, c3, rfl, hk1, rfl, f3⟩ hN
    have hl : ((List.range (k - 1)).map fun j => D.lst (tabL n gs (j + 1))).length < 100000 := by rw [List.length_map, List.length_range]; omega
    lcg_sub
    refine comp_inv (fun xs acc Γ => ∃ (x : Nat), x ≤ n ∧ xs = rngD x (n - x) ∧ acc = (List.range x).map (fun y => iL (rowL n gs k y)) ∧ Γ = [.sh (.int n), .sh (iL gs), .ow (.lst ((List.range (k - 1)).map fun j => .lst (tabL n gs (j + 1)))), .sh (.int k), .no]) ?_ ?_ ?_ _ _ _ ⟨0, by omega, by rw [show (n : Int).toNat = n - 0 by omega]; rfl, rfl, rfl⟩
    · rintro xs acc Γ ⟨x, -, -, -, rfl⟩
      exact ⟨trivial, rfl⟩
    · rintro acc Γ ⟨x, hx, he, rfl, rfl⟩
      have hxn : x = n := by
        have := congrArg List.length he
        simp only [rngD, List.length_nil, List.length_map, List.length_range] at this
        omega
      subst hxn
      lcg_sub
      have e : ((List.range (k - 1)).map fun j => D.lst (tabL x gs (j + 1))) ++ [.lst ((List.range x).map fun y => iL (rowL x gs k y))] = (List.range (k + 1 - 1)).map fun j => D.lst (tabL x gs (j + 1)) := by
        rw [show k + 1 - 1 = (k - 1) + 1 by omega, List.range_succ, List.map_append, List.map_singleton, show k - 1 + 1 = k by omega]
        rfl
      rw [e]
      exact hN _ ⟨k + 1, _, by omega, by omega, rfl, rfl⟩
    · rintro y xs acc Γ M ⟨x, hx, he, rfl, rfl⟩ hM
      have hxn : x < n := by
        have := congrArg List.length he
        simp only [rngD, List.length_cons, List.length_map, List.length_range] at this
        omega
      rw [show n - x = (n - (x + 1)) + 1 by omega, rngD_cons] at he
      injection he with h3 h4
      subst h3
      have hl2 : ((List.range x).map fun y => iL (rowL n gs k y)).length < 100000 := by rw [List.length_map, List.length_range]; omega
      lcg_sub
      refine i_bvalues h1 h2 (by omega) hs ?_
      lcg_sub
      refine hM _ _ ⟨x + 1, by omega, by rw [h4]; rfl, ?_, rfl⟩
      rw [List.range_succ, List.map_append]; rfl
set_option maxHeartbeats 4000000 in
theorem v_law_take (ds : List D) (Qd : Bool → D → List D → Prop) (Ed : EdT) (hl : ds.length = 2) (h : slaw_take ds Qd Ed) : m_law_take (endsD [.M, .S] Qd) (startD ["_law_bag_here", "_law_many", "_law_first", "_law_second", "_law_cell", "_law_value"] [.M, .S] ds) := by
  obtain ⟨b, many, rfl, ⟨big, seed, pos, cells, rfl, b1, b2, b3, b4, b5⟩, m1, m2, hq⟩ := h
  unfold m_law_take
  lcg_src
  refine cut (fun Γ => ∃ big seed pos c, Γ = [.io (.lst [.int big, .int seed, .int pos, .lst (cells.map D.int)]), .sh (.int many), .no, .no, c, .no] ∧ 0 ≤ big ∧ 0 ≤ seed ∧ seed < 2147483647 ∧ 0 ≤ pos) (fun N hN => ?_) ?_
  · by_cases hb : big = 0
    · subst hb
      lcg_off
      all_goals refine hN _ ⟨_, _, _, _, rfl, ?_, Int.emod_nonneg _ (by decide), Int.emod_lt_of_pos _ (by decide), by omega⟩
      all_goals omega
    · lcg_sub
      exact hN _ ⟨big, seed, pos, .no, rfl, b1, b2, b3, b4⟩
  · rintro _ ⟨big, seed, pos, c, rfl, b1, b2, b3, b4⟩
    have hB : ∀ x : Int, 0 ≤ x → BagD (.lst [.int x, .int seed, .int pos, .lst (cells.map D.int)]) := fun x hx => ⟨_, _, _, _, rfl, hx, b2, b3, b4, b5⟩
    have hx : 0 ≤ (seed + 1) * 39373 % 1000000007 ∧ (seed + 1) * 39373 % 1000000007 < 1000000007 := ⟨Int.emod_nonneg _ (by decide), Int.emod_lt_of_pos _ (by decide)⟩
    by_cases hb : 0 < big
    · lcg_sub
      exact hq _ _ (Int.emod_nonneg _ (by omega)) (Int.emod_lt_of_pos _ m1) (hB _ (Int.ediv_nonneg b1 (by omega)))
    · lcg_off
      all_goals exact hq _ _ (Int.emod_nonneg _ (by omega)) (Int.emod_lt_of_pos _ m1) (hB _ b1)
set_option maxHeartbeats 8000000 in
theorem v_law_schedule (ds : List D) (Qd : Bool → D → List D → Prop) (Ed : EdT) (hl : ds.length = 3) (h : slaw_schedule ds Qd Ed) : m_law_schedule slaw_take (endsD [.M, .S, .S] Qd) (startD ["_law_bag_here", "_law_size", "_law_most", "_law_few", "_law_found", "_law_k", "_law_many", "_law_way", "_law_begin", "_law_gap"] [.M, .S, .S] ds) := by
  obtain ⟨b, n, m, rfl, hb, n1, n2, m1, m2, hq⟩ := h
  unfold m_law_schedule
  lcg_src
  lcg_sub
  rename_i d1 _ _ _ _ d2 _ _ _ _ d3 _ _ _ _ d4 _ _ _ _
  rename Int => d5
  refine loop_rng d1 (fun i Γ => ∃ (b : D) (c5 c9 : Sl) (l : List Int), Γ = [.io b, .sh (.int n), .sh (.int m), .sh (.lst [.int d4, .int d5]), .ow (.lst (l.map D.int)), c5, .sh (.int d1), .sh (.int d2), .sh (.int d3), c9] ∧ fr c5 = true ∧ fr c9 = true ∧ BagD b ∧ (l.length : Int) = i ∧ 0 ≤ i ∧ Sch n l) ?_ ?_ ?_ _ _ _ (by omega) ⟨bag, .no, .no, [], rfl, rfl, rfl, hbag, rfl, by omega, ⟨by simp⟩⟩
  · intro i Γ _; exact trivial
  · rintro Γ ⟨b, c5, c9, l, rfl, f5, f9, hb, hl, h0, hs⟩
    lcg_sub
    exact hq _ _ (by omega) hs hb
  · rintro i Γ N hi ⟨b, c5, c9, l, rfl, f5, f9, hb, hl, h0, hs⟩ hN
    have hll : (l.map D.int).length < 100000 := by rw [List.length_map]; omega
    have fin : ∀ (b : D) (g : Int), BagD b → 0 ≤ g → g < n → N [.io b, .sh (.int n), .sh (.int m), .sh (.lst [.int d4, .int d5]), .ow (.lst ((l ++ [g]).map D.int)), .sh (.int i), .sh (.int d1), .sh (.int d2), .sh (.int d3), .sh (.int g)] := fun b g hb g0 g1 => hN _ ⟨b, _, _, l ++ [g], rfl, rfl, rfl, hb, by rw [List.length_append, List.length_singleton]; omega, by omega, ⟨fun x hx => (List.mem_append.mp hx).elim (hs.mem x) fun hx => by rw [List.mem_singleton.mp hx]; exact ⟨g0, g1⟩⟩⟩
    have hm : i % 2 = 0 ∨ i % 2 = 1 := by omega
    have h2 : min d2 3 = 0 ∨ min d2 3 = 1 ∨ min d2 3 = 2 ∨ min d2 3 = 3 := by omega
    have md : ∀ x : Int, 0 ≤ x % n ∧ x % n < n := fun x => ⟨Int.emod_nonneg _ (by omega), Int.emod_lt_of_pos _ (by omega)⟩
    lcg_sub
    refine i_ix (atI_ints (l := [d4, d5]) (by simp only [List.length_cons, List.length_nil]; omega)) ?_
    have q5 := ig_mem (l := [d4, d5]) (i := i % 2) (by simp only [List.length_cons, List.length_nil]; omega)
    have q5 : 0 ≤ ig [d4, d5] (i % 2) ∧ ig [d4, d5] (i % 2) < n := by
      simp only [List.mem_cons, List.not_mem_nil, or_false] at q5
      rcases q5 with e | e <;> rw [e] <;> omega
    generalize ig [d4, d5] (i % 2) = e5 at q5
    lcg_sub
    refine i_ix (atI_ints (l := [drawn, e5, (d3 + i) % n, (d3 - i) % n]) (by simp only [List.length_cons, List.length_nil]; omega)) ?_
    have q6 := ig_mem (l := [drawn, e5, (d3 + i) % n, (d3 - i) % n]) (i := min d2 3) (by simp only [List.length_cons, List.length_nil]; omega)
    have q6 : 0 ≤ ig [drawn, e5, (d3 + i) % n, (d3 - i) % n] (min d2 3) ∧ ig [drawn, e5, (d3 + i) % n, (d3 - i) % n] (min d2 3) < n := by
      have := md (d3 + i)
      have := md (d3 - i)
      simp only [List.mem_cons, List.not_mem_nil, or_false] at q6
      rcases q6 with e | e | e | e <;> rw [e] <;> omega
    generalize ig [drawn, e5, (d3 + i) % n, (d3 - i) % n] (min d2 3) = e6 at q6
    have hmx : 0 < max 1 (n - 1) ∧ max 1 (n - 1) < 2 ^ 64 := by omega
    have hw : d2 = 4 ∨ d2 = 5 ∨ (¬ d2 = 4 ∧ ¬ d2 = 5) := by omega
    rcases hw with rfl | rfl | ⟨w4, w5⟩
    · lcg_sub
      exact fin _ _ hbag (md _).1 (md _).2
    · lcg_sub
      exact fin _ _ hbag (by omega) (by omega)
    · lcg_sub
      exact fin _ _ hbag q6.1 q6.2
set_option maxHeartbeats 8000000 in
theorem v_law_ranks (ds : List D) (Qd : Bool → D → List D → Prop) (Ed : EdT) (hl : ds.length = 2) (h : slaw_ranks ds Qd Ed) : m_law_ranks slaw_take (endsD [.M, .S] Qd) (startD ["_law_bag_here", "_law_size", "_law_place", "_law_way", "_law_found", "_law_spot", "_law_few", "_law_great", "_law_rank"] [.M, .S] ds) := by
  obtain ⟨b, n, rfl, hb, n1, n2, hq⟩ := h
  unfold m_law_ranks
  lcg_src
  lcg_sub
  refine loop_rng n (fun i Γ => ∃ b c2 c5 c6 c7 c8 l, Γ = [.io b, .sh (.int n), c2, .sh (.int drawn), .ow (.lst (l.map D.int)), c5, c6, c7, c8] ∧ fr c2 = true ∧ fr c5 = true ∧ fr c6 = true ∧ fr c7 = true ∧ okOwn [c8] [0] = true ∧ BagD b ∧ (l.length : Int) = i ∧ 0 ≤ i ∧ (∀ x ∈ l, rkOk x)) ?_ ?_ ?_ _ _ _ (by omega) ⟨_, _, _, _, _, _, [], rfl, rfl, rfl, rfl, rfl, rfl, hbag, rfl, by omega, by simp⟩
  · intro i Γ _; exact trivial
  · rintro Γ ⟨b, c2, c5, c6, c7, c8, l, rfl, f2, f5, f6, f7, f8, hb, hl, h0, hx⟩
    dsimp only
    refine cut (fun Γ => ∃ (b : D) (c8 : Sl) (l : List Int), Γ = [.io b, .sh (.int n), c2, .sh (.int drawn), .ow (.lst (l.map D.int)), c5, c6, c7, c8] ∧ BagD b ∧ (l.length : Int) = n ∧ (∀ x ∈ l, rkOk x)) (fun M hM => ?_) ?_
    · have stay : ∀ b, BagD b → M [.io b, .sh (.int n), c2, .sh (.int drawn), .ow (.lst (l.map D.int)), c5, c6, c7, c8] := fun b hb => hM _ ⟨b, c8, l, rfl, hb, hl, hx⟩
      by_cases hw : drawn = 0
      · have hw' := hw
        lcg_sub
        refine e_dif (fun hc => ?_) (fun hc => ?_)
        · lcg_sub
          refine comp_fn (mapG fun r => if decide (0 < r) = true then 1 else 0) (by rfl) (by exact f8) _ _ (fun x hx N hN => ?_) ?_ ?_
          · obtain ⟨i, _, rfl⟩ := List.mem_map.mp hx
            lcg_sub
            exact hN
          · rw [List.length_map]; simp only [List.length_nil]; omega
          · rw [List.nil_append, mapG_all]
            lcg_sub
            refine hM _ ⟨_, _, _, rfl, hbag, by rw [List.length_map]; exact hl, fun x hx => ?_⟩
            obtain ⟨r, _, rfl⟩ := List.mem_map.mp hx
            show rkOk (if decide (0 < r) = true then (1 : Int) else 0)
            split <;> decide
        · lcg_sub
          exact stay _ hbag
      · lcg_sub
        exact stay _ hb
    · rintro _ ⟨b, c8, l, rfl, hb, hl, hx⟩
      by_cases hw : 1 < drawn
      · lcg_sub
        · rw [cutD_from hdrawn0 (by rw [List.length_map]; omega), cutD_to hdrawn0 (by rw [List.length_map]; omega), ← List.map_drop, ← List.map_take, ← List.map_append]
          exact hq _ _ (by rw [List.length_append, List.length_drop, List.length_take]; omega) (fun x hm => hx x ((List.mem_append.mp hm).elim List.mem_of_mem_drop List.mem_of_mem_take)) hbag
        · rw [cutD_from hdrawn0 (by rw [List.length_map]; omega), cutD_to hdrawn0 (by rw [List.length_map]; omega), List.length_drop, List.length_take, List.length_map]
          omega
      · lcg_sub
        exact hq _ _ hl hx hb
  · rintro i Γ N hi ⟨b, c2, c5, c6, c7, c8, l, rfl, f2, f5, f6, f7, f8, hb, hl, h0, hx⟩ hN
    have hw := hdrawn0
    have hw1 := hdrawn1
    lcg_sub
    rename_i way _ _ _ _ few _ f0 f1 _
    refine i_ix (atI_ints (l := [few, few * 3 - 4, drawn - 5 * 10 ^ 11, 0 - i, i + few, 10 ^ 39 - i * few]) (by simp only [List.length_cons, List.length_nil]; omega)) ?_
    have hm := ig_mem (l := [few, few * 3 - 4, drawn - 5 * 10 ^ 11, 0 - i, i + few, 10 ^ 39 - i * few]) (i := way) (by simp only [List.length_cons, List.length_nil]; omega)
    have h0' : 0 ≤ i * few := Int.mul_nonneg h0 f0
    have h1' : i * few ≤ 100 * 3 := by
      have := Int.mul_le_mul (show i ≤ 100 by omega) (show few ≤ 3 by omega) f0 (by decide)
      omega
    have hb : rkOk (ig [few, few * 3 - 4, drawn - 5 * 10 ^ 11, 0 - i, i + few, 10 ^ 39 - i * few] way) := by
      simp only [List.mem_cons, List.not_mem_nil, or_false] at hm
      rcases hm with e | e | e | e | e | e <;> rw [e] <;> constructor <;> omega
    generalize ig [few, few * 3 - 4, drawn - 5 * 10 ^ 11, 0 - i, i + few, 10 ^ 39 - i * few] way = g at hb
    lcg_sub
    refine hN _ ⟨_, _, _, _, _, _, l ++ [g], rfl, rfl, f5, rfl, rfl, f8, hbag, by rw [List.length_append, List.length_singleton]; omega, by omega, fun x hm => ?_⟩
    rcases List.mem_append.mp hm with hm | hm
    · exact hx x hm
    · rw [List.mem_singleton] at hm; rw [hm]; exact hb
set_option maxHeartbeats 4000000 in
theorem v_law_some_size (ds : List D) (Qd : Bool → D → List D → Prop) (Ed : EdT) (hl : ds.length = 2) (h : slaw_some_size ds Qd Ed) : m_law_some_size slaw_take (endsD [.M, .S] Qd) (startD ["_law_bag_here", "_law_most"] [.M, .S] ds) := by
  obtain ⟨b, m, rfl, hb, m1, m2, hq⟩ := h
  unfold m_law_some_size
  lcg_src
  lcg_sub
  have hd : drawn = 0 ∨ drawn = 1 := by omega
  rcases hd with rfl | rfl
  · lcg_sub
    exact hq _ _ (by omega) (by omega) hbag
  · lcg_sub
    exact hq _ _ (by omega) (by omega) hbag
set_option maxHeartbeats 4000000 in
theorem v_law_bag (ds : List D) (Qd : Bool → D → List D → Prop) (Ed : EdT) (hl : ds.length = 1) (h : slaw_bag ds Qd Ed) : m_law_bag (endsD [.S] Qd) (startD ["_law_script", "_law_cell"] [.S] ds) := by
  obtain ⟨ns, rfl, hq⟩ := h
  unfold m_law_bag
  lcg_src
  lcg_sub
  refine comp_inv (fun xs acc Γ => Γ = [.sh (.scr (ns.map D.int)), .no] ∧ (∃ ys : List Int, xs = ys.map D.int) ∧ (∃ cs : List Int, acc = cs.map D.int ∧ (∀ c ∈ cs, 0 ≤ c)) ∧ acc.length + xs.length ≤ 63) ?_ ?_ ?_ _ _ _ ⟨rfl, ⟨ns.take 63, ?_⟩, ⟨[], rfl, by simp⟩, ?_⟩
  · rintro xs acc Γ ⟨rfl, -⟩
    exact ⟨trivial, rfl⟩
  · rintro acc Γ ⟨rfl, -, ⟨cs, rfl, hc⟩, -⟩
    lcg_sub
    exact hq _ ⟨0, 1234567891, 0, cs, rfl, by decide, by decide, by decide, by decide, hc⟩
  · rintro x xs acc Γ N ⟨rfl, ⟨ys, hx⟩, ⟨cs, rfl, hc⟩, hlen⟩ hN
    cases ys with
    | nil => cases hx
    | cons y ys =>
      cases hx
      rw [List.length_cons] at hlen
      lcg_sub
      refine hN _ _ ⟨rfl, ⟨ys, rfl⟩, ⟨cs ++ [(y.natAbs : Int)], by rw [List.map_append]; rfl, fun c hm => ?_⟩, ?_⟩
      · rcases List.mem_append.mp hm with hm | hm
        · exact hc c hm
        · rw [List.mem_singleton] at hm; omega
      · simp only [List.length_append, List.length_map, List.length_singleton] at hlen ⊢; omega
  · simp [DL.cutD, HT.sIx, List.map_take, List.length_map, List.take_eq_take_iff]
  · simp [DL.cutD, HT.sIx]
    try omega
set_option maxHeartbeats 4000000 in
theorem v_law {C_Card C_Ring : Addr} (ds : List D) (Qd : Bool → D → List D → Prop) (Ed : EdT) (hl : ds.length = 1) (h : slaw ds Qd Ed) : m_law C_Ring slaw_laps_right (slaw_steps_right C_Card) slaw_order_right (slap_rates C_Card C_Ring) (sRing___init__ C_Ring) (scard_of C_Card C_Ring) slaw_schedule slaw_ranks slaw_some_size slaw_bag (endsD [.S] Qd) (startD ["_law_script", "_law_bag_here", "_law_go", "_law_size", "_law_card", "_law_laps", "_law_ranks_here", "_law_schedule_here"] [.S] ds) := by
  obtain ⟨ns, rfl, hq⟩ := h
  unfold m_law
  lcg_src
  lcg_sub
  refine loop_rng 2 (fun i Γ => ∃ b c2 c3 c4 c5 c6 c7, Γ = [.sh (.scr (ns.map D.int)), .ow b, c2, c3, c4, c5, c6, c7] ∧ (fr c2 = true ∧ fr c3 = true ∧ fr c4 = true ∧ fr c5 = true ∧ fr c6 = true ∧ fr c7 = true) ∧ BagD b) ?_ ?_ ?_ _ _ _ (by decide) ⟨_, _, _, _, _, _, _, rfl, ⟨rfl, rfl, rfl, rfl, rfl, rfl⟩, hbag⟩
  · intro i Γ _; exact trivial
  · rintro Γ ⟨b, c2, c3, c4, c5, c6, c7, rfl, -⟩
    lcg_sub
    exact hq
  · rintro i Γ N hi ⟨b, c2, c3, c4, c5, c6, c7, rfl, ⟨f2, f3, f4, f5, f6, f7⟩, hb⟩ hN
    lcg_sub
    obtain ⟨n, rfl⟩ := Int.eq_ofNat_of_zero_le (show 0 ≤ size by omega)
    have hn : n ≤ 12 := by omega
    have h2 : 2 ≤ n := by omega
    refine i_cardof h2 hn hgaps ?_
    have hrl : ranks.length = n := by omega
    lcg_sub
    refine i_laps hrl h2 hn (by omega) fun hL => ?_
    lcg_sub
    refine i_order56 hrl h2 hn hL ?_
    lcg_sub
    refine i_steps56 h2 hn (by omega) ?_
    lcg_sub
    refine i_lapsright hrl h2 (by omega) hgaps (by omega) hL hranksb ?_
    lcg_sub
    exact hN _ ⟨_, _, _, _, _, _, _, rfl, ⟨rfl, rfl, rfl, rfl, rfl, rfl⟩, by assumption⟩
end LW
namespace LW
open PySem PySem.Spec PyProof.Rows L2 DL
set_option maxHeartbeats 4000000 in
theorem all_mk {l : PySem.W.OpenLaw} {w : World} {K : PySem.W.Frag} {h : Heap} {mg : Str → Option Value} {fa f_law_ended f_law_after f_law_called f_law_standing f_law_run f_law_laps_right f_Card_size f_is_less f_least_of f_greatest_of f_common_divisor f_fraction f_Card_value f_step_sums f_rate f_law_steps_right f_law_is_less f_law_order_right f_Ring_ranks f_lap_rates f_is_integer f_is_between f_is_size f_Ring___init__ f_Card___init__ f_Ring_strong f_Ring_size f_Ring_up_to f_levels_after f_Ring_block f_block_values f_card_of f_law_take f_law_schedule f_law_ranks f_law_some_size f_law_bag f_law C_Card C_Ring : Addr} (X : K.In h) (G : h.Ns mainGlobals mg) (hfa : mg "law" = some (.ref fa))
    {od_law_ended an_law_ended : Option Addr} {sl_law_ended : Array (Option Value)} {oc_law_ended kV_law_ended dc_law_ended pm_law_ended cd_law_ended ct_law_ended : Value}
    {od_law_after an_law_after : Option Addr} {sl_law_after : Array (Option Value)} {oc_law_after kV_law_after dc_law_after pm_law_after cd_law_after ct_law_after : Value}
    {od_law_called an_law_called : Option Addr} {sl_law_called : Array (Option Value)} {oc_law_called kV_law_called dc_law_called pm_law_called cd_law_called ct_law_called : Value}
    {od_law_standing an_law_standing : Option Addr} {sl_law_standing : Array (Option Value)} {oc_law_standing kV_law_standing dc_law_standing pm_law_standing cd_law_standing ct_law_standing : Value}
    {od_law_run an_law_run : Option Addr} {sl_law_run : Array (Option Value)} {oc_law_run kV_law_run dc_law_run pm_law_run cd_law_run ct_law_run : Value}
    {od_law_laps_right an_law_laps_right : Option Addr} {sl_law_laps_right : Array (Option Value)} {oc_law_laps_right kV_law_laps_right dc_law_laps_right pm_law_laps_right cd_law_laps_right ct_law_laps_right : Value}
    {od_Card_size an_Card_size : Option Addr} {sl_Card_size : Array (Option Value)} {oc_Card_size kV_Card_size dc_Card_size pm_Card_size cd_Card_size ct_Card_size : Value}
    {p_Card_size : Addr} {rest_Card_size : List Value}
    {od_is_less an_is_less : Option Addr} {sl_is_less : Array (Option Value)} {oc_is_less kV_is_less dc_is_less pm_is_less cd_is_less ct_is_less : Value}
    {od_least_of an_least_of : Option Addr} {sl_least_of : Array (Option Value)} {oc_least_of kV_least_of dc_least_of pm_least_of cd_least_of ct_least_of : Value}
    {od_greatest_of an_greatest_of : Option Addr} {sl_greatest_of : Array (Option Value)} {oc_greatest_of kV_greatest_of dc_greatest_of pm_greatest_of cd_greatest_of ct_greatest_of : Value}
    {od_common_divisor an_common_divisor : Option Addr} {sl_common_divisor : Array (Option Value)} {oc_common_divisor kV_common_divisor dc_common_divisor pm_common_divisor cd_common_divisor ct_common_divisor : Value}
    {od_fraction an_fraction : Option Addr} {sl_fraction : Array (Option Value)} {oc_fraction kV_fraction dc_fraction pm_fraction cd_fraction ct_fraction : Value}
    {od_Card_value an_Card_value : Option Addr} {sl_Card_value : Array (Option Value)} {oc_Card_value kV_Card_value dc_Card_value pm_Card_value cd_Card_value ct_Card_value : Value}
    {od_step_sums an_step_sums : Option Addr} {sl_step_sums : Array (Option Value)} {oc_step_sums kV_step_sums dc_step_sums pm_step_sums cd_step_sums ct_step_sums : Value}
    {od_rate an_rate : Option Addr} {sl_rate : Array (Option Value)} {oc_rate kV_rate dc_rate pm_rate cd_rate ct_rate : Value}
    {od_law_steps_right an_law_steps_right : Option Addr} {sl_law_steps_right : Array (Option Value)} {oc_law_steps_right kV_law_steps_right dc_law_steps_right pm_law_steps_right cd_law_steps_right ct_law_steps_right : Value}
    {od_law_is_less an_law_is_less : Option Addr} {sl_law_is_less : Array (Option Value)} {oc_law_is_less kV_law_is_less dc_law_is_less pm_law_is_less cd_law_is_less ct_law_is_less : Value}
    {od_law_order_right an_law_order_right : Option Addr} {sl_law_order_right : Array (Option Value)} {oc_law_order_right kV_law_order_right dc_law_order_right pm_law_order_right cd_law_order_right ct_law_order_right : Value}
    {od_Ring_ranks an_Ring_ranks : Option Addr} {sl_Ring_ranks : Array (Option Value)} {oc_Ring_ranks kV_Ring_ranks dc_Ring_ranks pm_Ring_ranks cd_Ring_ranks ct_Ring_ranks : Value}
    {od_lap_rates an_lap_rates : Option Addr} {sl_lap_rates : Array (Option Value)} {oc_lap_rates kV_lap_rates dc_lap_rates pm_lap_rates cd_lap_rates ct_lap_rates : Value}
    {od_is_integer an_is_integer : Option Addr} {sl_is_integer : Array (Option Value)} {oc_is_integer kV_is_integer dc_is_integer pm_is_integer cd_is_integer ct_is_integer : Value}
    {od_is_between an_is_between : Option Addr} {sl_is_between : Array (Option Value)} {oc_is_between kV_is_between dc_is_between pm_is_between cd_is_between ct_is_between : Value}
    {od_is_size an_is_size : Option Addr} {sl_is_size : Array (Option Value)} {oc_is_size kV_is_size dc_is_size pm_is_size cd_is_size ct_is_size : Value}
    {od_Ring___init__ an_Ring___init__ : Option Addr} {sl_Ring___init__ : Array (Option Value)} {oc_Ring___init__ kV_Ring___init__ dc_Ring___init__ pm_Ring___init__ cd_Ring___init__ ct_Ring___init__ : Value}
    {od_Card___init__ an_Card___init__ : Option Addr} {sl_Card___init__ : Array (Option Value)} {oc_Card___init__ kV_Card___init__ dc_Card___init__ pm_Card___init__ cd_Card___init__ ct_Card___init__ : Value}
    {od_Ring_strong an_Ring_strong : Option Addr} {sl_Ring_strong : Array (Option Value)} {oc_Ring_strong kV_Ring_strong dc_Ring_strong pm_Ring_strong cd_Ring_strong ct_Ring_strong : Value}
    {od_Ring_size an_Ring_size : Option Addr} {sl_Ring_size : Array (Option Value)} {oc_Ring_size kV_Ring_size dc_Ring_size pm_Ring_size cd_Ring_size ct_Ring_size : Value}
    {p_Ring_size : Addr} {rest_Ring_size : List Value}
    {od_Ring_up_to an_Ring_up_to : Option Addr} {sl_Ring_up_to : Array (Option Value)} {oc_Ring_up_to kV_Ring_up_to dc_Ring_up_to pm_Ring_up_to cd_Ring_up_to ct_Ring_up_to : Value}
    {od_levels_after an_levels_after : Option Addr} {sl_levels_after : Array (Option Value)} {oc_levels_after kV_levels_after dc_levels_after pm_levels_after cd_levels_after ct_levels_after : Value}
    {od_Ring_block an_Ring_block : Option Addr} {sl_Ring_block : Array (Option Value)} {oc_Ring_block kV_Ring_block dc_Ring_block pm_Ring_block cd_Ring_block ct_Ring_block : Value}
    {q_Ring_block : Addr} {rest_Ring_block : List Value}
    {od_block_values an_block_values : Option Addr} {sl_block_values : Array (Option Value)} {oc_block_values kV_block_values dc_block_values pm_block_values cd_block_values ct_block_values : Value}
    {od_card_of an_card_of : Option Addr} {sl_card_of : Array (Option Value)} {oc_card_of kV_card_of dc_card_of pm_card_of cd_card_of ct_card_of : Value}
    {od_law_take an_law_take : Option Addr} {sl_law_take : Array (Option Value)} {oc_law_take kV_law_take dc_law_take pm_law_take cd_law_take ct_law_take : Value}
    {od_law_schedule an_law_schedule : Option Addr} {sl_law_schedule : Array (Option Value)} {oc_law_schedule kV_law_schedule dc_law_schedule pm_law_schedule cd_law_schedule ct_law_schedule : Value}
    {od_law_ranks an_law_ranks : Option Addr} {sl_law_ranks : Array (Option Value)} {oc_law_ranks kV_law_ranks dc_law_ranks pm_law_ranks cd_law_ranks ct_law_ranks : Value}
    {od_law_some_size an_law_some_size : Option Addr} {sl_law_some_size : Array (Option Value)} {oc_law_some_size kV_law_some_size dc_law_some_size pm_law_some_size cd_law_some_size ct_law_some_size : Value}
    {od_law_bag an_law_bag : Option Addr} {sl_law_bag : Array (Option Value)} {oc_law_bag kV_law_bag dc_law_bag pm_law_bag cd_law_bag ct_law_bag : Value}
    {od_law an_law : Option Addr} {sl_law : Array (Option Value)} {oc_law kV_law dc_law pm_law cd_law ct_law : Value}
    {t_MOST_PLACES : Tok}
    (g_Card : PySem.W.nsIn K mainGlobals "Card" = some (some (.ref C_Card)))
    (g_Ring : PySem.W.nsIn K mainGlobals "Ring" = some (some (.ref C_Ring)))
    (a_law_ended : PySem.W.nsIn K mainGlobals "_law_ended" = some (some (.ref f_law_ended)))
    (l_law_ended : K.lookup f_law_ended = some ⟨oc_law_ended, od_law_ended, .func (PySem.W.fnOf "_law_ended" "_law_ended" (defArgs s_law_ended) (defBody s_law_ended) (defScope s_law_ended) .none kV_law_ended dc_law_ended pm_law_ended an_law_ended cd_law_ended ct_law_ended), sl_law_ended⟩)
    (c_law_ended : PySem.W.codeIn K cd_law_ended "_law_ended" = true)
    (k_law_ended : PySem.W.keepIn K (.ref f_law_ended) = true)
    (a_law_after : PySem.W.nsIn K mainGlobals "_law_after" = some (some (.ref f_law_after)))
    (l_law_after : K.lookup f_law_after = some ⟨oc_law_after, od_law_after, .func (PySem.W.fnOf "_law_after" "_law_after" (defArgs s_law_after) (defBody s_law_after) (defScope s_law_after) .none kV_law_after dc_law_after pm_law_after an_law_after cd_law_after ct_law_after), sl_law_after⟩)
    (c_law_after : PySem.W.codeIn K cd_law_after "_law_after" = true)
    (k_law_after : PySem.W.keepIn K (.ref f_law_after) = true)
    (a_law_called : PySem.W.nsIn K mainGlobals "_law_called" = some (some (.ref f_law_called)))
    (l_law_called : K.lookup f_law_called = some ⟨oc_law_called, od_law_called, .func (PySem.W.fnOf "_law_called" "_law_called" (defArgs s_law_called) (defBody s_law_called) (defScope s_law_called) .none kV_law_called dc_law_called pm_law_called an_law_called cd_law_called ct_law_called), sl_law_called⟩)
    (c_law_called : PySem.W.codeIn K cd_law_called "_law_called" = true)
    (k_law_called : PySem.W.keepIn K (.ref f_law_called) = true)
    (a_law_standing : PySem.W.nsIn K mainGlobals "_law_standing" = some (some (.ref f_law_standing)))
    (l_law_standing : K.lookup f_law_standing = some ⟨oc_law_standing, od_law_standing, .func (PySem.W.fnOf "_law_standing" "_law_standing" (defArgs s_law_standing) (defBody s_law_standing) (defScope s_law_standing) .none kV_law_standing dc_law_standing pm_law_standing an_law_standing cd_law_standing ct_law_standing), sl_law_standing⟩)
    (c_law_standing : PySem.W.codeIn K cd_law_standing "_law_standing" = true)
    (k_law_standing : PySem.W.keepIn K (.ref f_law_standing) = true)
    (a_law_run : PySem.W.nsIn K mainGlobals "_law_run" = some (some (.ref f_law_run)))
    (l_law_run : K.lookup f_law_run = some ⟨oc_law_run, od_law_run, .func (PySem.W.fnOf "_law_run" "_law_run" (defArgs s_law_run) (defBody s_law_run) (defScope s_law_run) .none kV_law_run dc_law_run pm_law_run an_law_run cd_law_run ct_law_run), sl_law_run⟩)
    (c_law_run : PySem.W.codeIn K cd_law_run "_law_run" = true)
    (k_law_run : PySem.W.keepIn K (.ref f_law_run) = true)
    (a_law_laps_right : PySem.W.nsIn K mainGlobals "_law_laps_right" = some (some (.ref f_law_laps_right)))
    (l_law_laps_right : K.lookup f_law_laps_right = some ⟨oc_law_laps_right, od_law_laps_right, .func (PySem.W.fnOf "_law_laps_right" "_law_laps_right" (defArgs s_law_laps_right) (defBody s_law_laps_right) (defScope s_law_laps_right) .none kV_law_laps_right dc_law_laps_right pm_law_laps_right an_law_laps_right cd_law_laps_right ct_law_laps_right), sl_law_laps_right⟩)
    (c_law_laps_right : PySem.W.codeIn K cd_law_laps_right "_law_laps_right" = true)
    (k_law_laps_right : PySem.W.keepIn K (.ref f_law_laps_right) = true)
    (a_Card_size : PySem.W.findIn K (.ref C_Card) "size" = some (some (.ref p_Card_size)))
    (gt_Card_size : PySem.W.specialIn K (.ref p_Card_size) "__get__" = some (some (.builtin "property.__get__")))
    (tk_Card_size : PySem.W.takesIn K (.ref p_Card_size) = some true)
    (rc_Card_size : PySem.W.recIn K p_Card_size "property" = some (.ref f_Card_size :: rest_Card_size))
    (l_Card_size : K.lookup f_Card_size = some ⟨oc_Card_size, od_Card_size, .func (PySem.W.fnOf "size" "Card.size" (defArgs s_Card_size) (defBody s_Card_size) (defScope s_Card_size) .none kV_Card_size dc_Card_size pm_Card_size an_Card_size cd_Card_size ct_Card_size), sl_Card_size⟩)
    (c_Card_size : PySem.W.codeIn K cd_Card_size "Card.size" = true)
    (k_Card_size : PySem.W.keepIn K (.ref f_Card_size) = true)
    (a_is_less : PySem.W.nsIn K mainGlobals "is_less" = some (some (.ref f_is_less)))
    (l_is_less : K.lookup f_is_less = some ⟨oc_is_less, od_is_less, .func (PySem.W.fnOf "is_less" "is_less" (defArgs s_is_less) (defBody s_is_less) (defScope s_is_less) .none kV_is_less dc_is_less pm_is_less an_is_less cd_is_less ct_is_less), sl_is_less⟩)
    (c_is_less : PySem.W.codeIn K cd_is_less "is_less" = true)
    (k_is_less : PySem.W.keepIn K (.ref f_is_less) = true)
    (a_least_of : PySem.W.nsIn K mainGlobals "least_of" = some (some (.ref f_least_of)))
    (l_least_of : K.lookup f_least_of = some ⟨oc_least_of, od_least_of, .func (PySem.W.fnOf "least_of" "least_of" (defArgs s_least_of) (defBody s_least_of) (defScope s_least_of) .none kV_least_of dc_least_of pm_least_of an_least_of cd_least_of ct_least_of), sl_least_of⟩)
    (c_least_of : PySem.W.codeIn K cd_least_of "least_of" = true)
    (k_least_of : PySem.W.keepIn K (.ref f_least_of) = true)
    (a_greatest_of : PySem.W.nsIn K mainGlobals "greatest_of" = some (some (.ref f_greatest_of)))
    (l_greatest_of : K.lookup f_greatest_of = some ⟨oc_greatest_of, od_greatest_of, .func (PySem.W.fnOf "greatest_of" "greatest_of" (defArgs s_greatest_of) (defBody s_greatest_of) (defScope s_greatest_of) .none kV_greatest_of dc_greatest_of pm_greatest_of an_greatest_of cd_greatest_of ct_greatest_of), sl_greatest_of⟩)
    (c_greatest_of : PySem.W.codeIn K cd_greatest_of "greatest_of" = true)
    (k_greatest_of : PySem.W.keepIn K (.ref f_greatest_of) = true)
    (a_common_divisor : PySem.W.nsIn K mainGlobals "common_divisor" = some (some (.ref f_common_divisor)))
    (l_common_divisor : K.lookup f_common_divisor = some ⟨oc_common_divisor, od_common_divisor, .func (PySem.W.fnOf "common_divisor" "common_divisor" (defArgs s_common_divisor) (defBody s_common_divisor) (defScope s_common_divisor) .none kV_common_divisor dc_common_divisor pm_common_divisor an_common_divisor cd_common_divisor ct_common_divisor), sl_common_divisor⟩)
    (c_common_divisor : PySem.W.codeIn K cd_common_divisor "common_divisor" = true)
    (k_common_divisor : PySem.W.keepIn K (.ref f_common_divisor) = true)
    (a_fraction : PySem.W.nsIn K mainGlobals "fraction" = some (some (.ref f_fraction)))
    (l_fraction : K.lookup f_fraction = some ⟨oc_fraction, od_fraction, .func (PySem.W.fnOf "fraction" "fraction" (defArgs s_fraction) (defBody s_fraction) (defScope s_fraction) .none kV_fraction dc_fraction pm_fraction an_fraction cd_fraction ct_fraction), sl_fraction⟩)
    (c_fraction : PySem.W.codeIn K cd_fraction "fraction" = true)
    (k_fraction : PySem.W.keepIn K (.ref f_fraction) = true)
    (a_Card_value : PySem.W.findIn K (.ref C_Card) "value" = some (some (.ref f_Card_value)))
    (i_Card_value : PySem.W.isFn K (.ref f_Card_value) = true)
    (l_Card_value : K.lookup f_Card_value = some ⟨oc_Card_value, od_Card_value, .func (PySem.W.fnOf "value" "Card.value" (defArgs s_Card_value) (defBody s_Card_value) (defScope s_Card_value) .none kV_Card_value dc_Card_value pm_Card_value an_Card_value cd_Card_value ct_Card_value), sl_Card_value⟩)
    (c_Card_value : PySem.W.codeIn K cd_Card_value "Card.value" = true)
    (k_Card_value : PySem.W.keepIn K (.ref f_Card_value) = true)
    (a_step_sums : PySem.W.nsIn K mainGlobals "step_sums" = some (some (.ref f_step_sums)))
    (l_step_sums : K.lookup f_step_sums = some ⟨oc_step_sums, od_step_sums, .func (PySem.W.fnOf "step_sums" "step_sums" (defArgs s_step_sums) (defBody s_step_sums) (defScope s_step_sums) .none kV_step_sums dc_step_sums pm_step_sums an_step_sums cd_step_sums ct_step_sums), sl_step_sums⟩)
    (c_step_sums : PySem.W.codeIn K cd_step_sums "step_sums" = true)
    (k_step_sums : PySem.W.keepIn K (.ref f_step_sums) = true)
    (a_rate : PySem.W.nsIn K mainGlobals "rate" = some (some (.ref f_rate)))
    (l_rate : K.lookup f_rate = some ⟨oc_rate, od_rate, .func (PySem.W.fnOf "rate" "rate" (defArgs s_rate) (defBody s_rate) (defScope s_rate) .none kV_rate dc_rate pm_rate an_rate cd_rate ct_rate), sl_rate⟩)
    (c_rate : PySem.W.codeIn K cd_rate "rate" = true)
    (k_rate : PySem.W.keepIn K (.ref f_rate) = true)
    (a_law_steps_right : PySem.W.nsIn K mainGlobals "_law_steps_right" = some (some (.ref f_law_steps_right)))
    (l_law_steps_right : K.lookup f_law_steps_right = some ⟨oc_law_steps_right, od_law_steps_right, .func (PySem.W.fnOf "_law_steps_right" "_law_steps_right" (defArgs s_law_steps_right) (defBody s_law_steps_right) (defScope s_law_steps_right) .none kV_law_steps_right dc_law_steps_right pm_law_steps_right an_law_steps_right cd_law_steps_right ct_law_steps_right), sl_law_steps_right⟩)
    (c_law_steps_right : PySem.W.codeIn K cd_law_steps_right "_law_steps_right" = true)
    (k_law_steps_right : PySem.W.keepIn K (.ref f_law_steps_right) = true)
    (a_law_is_less : PySem.W.nsIn K mainGlobals "_law_is_less" = some (some (.ref f_law_is_less)))
    (l_law_is_less : K.lookup f_law_is_less = some ⟨oc_law_is_less, od_law_is_less, .func (PySem.W.fnOf "_law_is_less" "_law_is_less" (defArgs s_law_is_less) (defBody s_law_is_less) (defScope s_law_is_less) .none kV_law_is_less dc_law_is_less pm_law_is_less an_law_is_less cd_law_is_less ct_law_is_less), sl_law_is_less⟩)
    (c_law_is_less : PySem.W.codeIn K cd_law_is_less "_law_is_less" = true)
    (k_law_is_less : PySem.W.keepIn K (.ref f_law_is_less) = true)
    (a_law_order_right : PySem.W.nsIn K mainGlobals "_law_order_right" = some (some (.ref f_law_order_right)))
    (l_law_order_right : K.lookup f_law_order_right = some ⟨oc_law_order_right, od_law_order_right, .func (PySem.W.fnOf "_law_order_right" "_law_order_right" (defArgs s_law_order_right) (defBody s_law_order_right) (defScope s_law_order_right) .none kV_law_order_right dc_law_order_right pm_law_order_right an_law_order_right cd_law_order_right ct_law_order_right), sl_law_order_right⟩)
    (c_law_order_right : PySem.W.codeIn K cd_law_order_right "_law_order_right" = true)
    (k_law_order_right : PySem.W.keepIn K (.ref f_law_order_right) = true)
    (a_Ring_ranks : PySem.W.findIn K (.ref C_Ring) "ranks" = some (some (.ref f_Ring_ranks)))
    (i_Ring_ranks : PySem.W.isFn K (.ref f_Ring_ranks) = true)
    (l_Ring_ranks : K.lookup f_Ring_ranks = some ⟨oc_Ring_ranks, od_Ring_ranks, .func (PySem.W.fnOf "ranks" "Ring.ranks" (defArgs s_Ring_ranks) (defBody s_Ring_ranks) (defScope s_Ring_ranks) .none kV_Ring_ranks dc_Ring_ranks pm_Ring_ranks an_Ring_ranks cd_Ring_ranks ct_Ring_ranks), sl_Ring_ranks⟩)
    (c_Ring_ranks : PySem.W.codeIn K cd_Ring_ranks "Ring.ranks" = true)
    (k_Ring_ranks : PySem.W.keepIn K (.ref f_Ring_ranks) = true)
    (a_lap_rates : PySem.W.nsIn K mainGlobals "lap_rates" = some (some (.ref f_lap_rates)))
    (l_lap_rates : K.lookup f_lap_rates = some ⟨oc_lap_rates, od_lap_rates, .func (PySem.W.fnOf "lap_rates" "lap_rates" (defArgs s_lap_rates) (defBody s_lap_rates) (defScope s_lap_rates) .none kV_lap_rates dc_lap_rates pm_lap_rates an_lap_rates cd_lap_rates ct_lap_rates), sl_lap_rates⟩)
    (c_lap_rates : PySem.W.codeIn K cd_lap_rates "lap_rates" = true)
    (k_lap_rates : PySem.W.keepIn K (.ref f_lap_rates) = true)
    (a_is_integer : PySem.W.nsIn K mainGlobals "is_integer" = some (some (.ref f_is_integer)))
    (l_is_integer : K.lookup f_is_integer = some ⟨oc_is_integer, od_is_integer, .func (PySem.W.fnOf "is_integer" "is_integer" (defArgs s_is_integer) (defBody s_is_integer) (defScope s_is_integer) .none kV_is_integer dc_is_integer pm_is_integer an_is_integer cd_is_integer ct_is_integer), sl_is_integer⟩)
    (c_is_integer : PySem.W.codeIn K cd_is_integer "is_integer" = true)
    (k_is_integer : PySem.W.keepIn K (.ref f_is_integer) = true)
    (a_is_between : PySem.W.nsIn K mainGlobals "is_between" = some (some (.ref f_is_between)))
    (l_is_between : K.lookup f_is_between = some ⟨oc_is_between, od_is_between, .func (PySem.W.fnOf "is_between" "is_between" (defArgs s_is_between) (defBody s_is_between) (defScope s_is_between) .none kV_is_between dc_is_between pm_is_between an_is_between cd_is_between ct_is_between), sl_is_between⟩)
    (c_is_between : PySem.W.codeIn K cd_is_between "is_between" = true)
    (k_is_between : PySem.W.keepIn K (.ref f_is_between) = true)
    (a_is_size : PySem.W.nsIn K mainGlobals "is_size" = some (some (.ref f_is_size)))
    (l_is_size : K.lookup f_is_size = some ⟨oc_is_size, od_is_size, .func (PySem.W.fnOf "is_size" "is_size" (defArgs s_is_size) (defBody s_is_size) (defScope s_is_size) .none kV_is_size dc_is_size pm_is_size an_is_size cd_is_size ct_is_size), sl_is_size⟩)
    (c_is_size : PySem.W.codeIn K cd_is_size "is_size" = true)
    (k_is_size : PySem.W.keepIn K (.ref f_is_size) = true)
    (a_Ring___init__ : PySem.W.findIn K (.ref C_Ring) "__init__" = some (some (.ref f_Ring___init__)))
    (i_Ring___init__ : PySem.W.isFn K (.ref f_Ring___init__) = true)
    (l_Ring___init__ : K.lookup f_Ring___init__ = some ⟨oc_Ring___init__, od_Ring___init__, .func (PySem.W.fnOf "__init__" "Ring.__init__" (defArgs s_Ring___init__) (defBody s_Ring___init__) (defScope s_Ring___init__) .none kV_Ring___init__ dc_Ring___init__ pm_Ring___init__ an_Ring___init__ cd_Ring___init__ ct_Ring___init__), sl_Ring___init__⟩)
    (c_Ring___init__ : PySem.W.codeIn K cd_Ring___init__ "Ring.__init__" = true)
    (k_Ring___init__ : PySem.W.keepIn K (.ref f_Ring___init__) = true)
    (a_Card___init__ : PySem.W.findIn K (.ref C_Card) "__init__" = some (some (.ref f_Card___init__)))
    (i_Card___init__ : PySem.W.isFn K (.ref f_Card___init__) = true)
    (l_Card___init__ : K.lookup f_Card___init__ = some ⟨oc_Card___init__, od_Card___init__, .func (PySem.W.fnOf "__init__" "Card.__init__" (defArgs s_Card___init__) (defBody s_Card___init__) (defScope s_Card___init__) .none kV_Card___init__ dc_Card___init__ pm_Card___init__ an_Card___init__ cd_Card___init__ ct_Card___init__), sl_Card___init__⟩)
    (c_Card___init__ : PySem.W.codeIn K cd_Card___init__ "Card.__init__" = true)
    (k_Card___init__ : PySem.W.keepIn K (.ref f_Card___init__) = true)
    (a_Ring_strong : PySem.W.findIn K (.ref C_Ring) "strong" = some (some (.ref f_Ring_strong)))
    (i_Ring_strong : PySem.W.isFn K (.ref f_Ring_strong) = true)
    (l_Ring_strong : K.lookup f_Ring_strong = some ⟨oc_Ring_strong, od_Ring_strong, .func (PySem.W.fnOf "strong" "Ring.strong" (defArgs s_Ring_strong) (defBody s_Ring_strong) (defScope s_Ring_strong) .none kV_Ring_strong dc_Ring_strong pm_Ring_strong an_Ring_strong cd_Ring_strong ct_Ring_strong), sl_Ring_strong⟩)
    (c_Ring_strong : PySem.W.codeIn K cd_Ring_strong "Ring.strong" = true)
    (k_Ring_strong : PySem.W.keepIn K (.ref f_Ring_strong) = true)
    (a_Ring_size : PySem.W.findIn K (.ref C_Ring) "size" = some (some (.ref p_Ring_size)))
    (gt_Ring_size : PySem.W.specialIn K (.ref p_Ring_size) "__get__" = some (some (.builtin "property.__get__")))
    (tk_Ring_size : PySem.W.takesIn K (.ref p_Ring_size) = some true)
    (rc_Ring_size : PySem.W.recIn K p_Ring_size "property" = some (.ref f_Ring_size :: rest_Ring_size))
    (l_Ring_size : K.lookup f_Ring_size = some ⟨oc_Ring_size, od_Ring_size, .func (PySem.W.fnOf "size" "Ring.size" (defArgs s_Ring_size) (defBody s_Ring_size) (defScope s_Ring_size) .none kV_Ring_size dc_Ring_size pm_Ring_size an_Ring_size cd_Ring_size ct_Ring_size), sl_Ring_size⟩)
    (c_Ring_size : PySem.W.codeIn K cd_Ring_size "Ring.size" = true)
    (k_Ring_size : PySem.W.keepIn K (.ref f_Ring_size) = true)
    (a_Ring_up_to : PySem.W.findIn K (.ref C_Ring) "up_to" = some (some (.ref f_Ring_up_to)))
    (i_Ring_up_to : PySem.W.isFn K (.ref f_Ring_up_to) = true)
    (l_Ring_up_to : K.lookup f_Ring_up_to = some ⟨oc_Ring_up_to, od_Ring_up_to, .func (PySem.W.fnOf "up_to" "Ring.up_to" (defArgs s_Ring_up_to) (defBody s_Ring_up_to) (defScope s_Ring_up_to) .none kV_Ring_up_to dc_Ring_up_to pm_Ring_up_to an_Ring_up_to cd_Ring_up_to ct_Ring_up_to), sl_Ring_up_to⟩)
    (c_Ring_up_to : PySem.W.codeIn K cd_Ring_up_to "Ring.up_to" = true)
    (k_Ring_up_to : PySem.W.keepIn K (.ref f_Ring_up_to) = true)
    (a_levels_after : PySem.W.nsIn K mainGlobals "levels_after" = some (some (.ref f_levels_after)))
    (l_levels_after : K.lookup f_levels_after = some ⟨oc_levels_after, od_levels_after, .func (PySem.W.fnOf "levels_after" "levels_after" (defArgs s_levels_after) (defBody s_levels_after) (defScope s_levels_after) .none kV_levels_after dc_levels_after pm_levels_after an_levels_after cd_levels_after ct_levels_after), sl_levels_after⟩)
    (c_levels_after : PySem.W.codeIn K cd_levels_after "levels_after" = true)
    (k_levels_after : PySem.W.keepIn K (.ref f_levels_after) = true)
    (rd_Ring_block : PySem.W.readsIn K C_Ring (.type "type") = true)
    (ga_Ring_block : PySem.W.specialIn K (.ref C_Ring) "__getattribute__" = some (some (.builtin "type.__getattribute__")))
    (a_Ring_block : PySem.W.findCls K (.ref C_Ring) (.type "type") "block" = some (.get (.builtin "classmethod.__get__") (.ref q_Ring_block) .none (.ref C_Ring)))
    (rc_Ring_block : PySem.W.recIn K q_Ring_block "classmethod" = some (.ref f_Ring_block :: rest_Ring_block))
    (fi_Ring_block : PySem.W.fnIn K f_Ring_block = true)
    (l_Ring_block : K.lookup f_Ring_block = some ⟨oc_Ring_block, od_Ring_block, .func (PySem.W.fnOf "block" "Ring.block" (defArgs s_Ring_block) (defBody s_Ring_block) (defScope s_Ring_block) .none kV_Ring_block dc_Ring_block pm_Ring_block an_Ring_block cd_Ring_block ct_Ring_block), sl_Ring_block⟩)
    (c_Ring_block : PySem.W.codeIn K cd_Ring_block "Ring.block" = true)
    (k_Ring_block : PySem.W.keepIn K (.ref f_Ring_block) = true)
    (a_block_values : PySem.W.nsIn K mainGlobals "block_values" = some (some (.ref f_block_values)))
    (l_block_values : K.lookup f_block_values = some ⟨oc_block_values, od_block_values, .func (PySem.W.fnOf "block_values" "block_values" (defArgs s_block_values) (defBody s_block_values) (defScope s_block_values) .none kV_block_values dc_block_values pm_block_values an_block_values cd_block_values ct_block_values), sl_block_values⟩)
    (c_block_values : PySem.W.codeIn K cd_block_values "block_values" = true)
    (k_block_values : PySem.W.keepIn K (.ref f_block_values) = true)
    (a_card_of : PySem.W.nsIn K mainGlobals "card_of" = some (some (.ref f_card_of)))
    (l_card_of : K.lookup f_card_of = some ⟨oc_card_of, od_card_of, .func (PySem.W.fnOf "card_of" "card_of" (defArgs s_card_of) (defBody s_card_of) (defScope s_card_of) .none kV_card_of dc_card_of pm_card_of an_card_of cd_card_of ct_card_of), sl_card_of⟩)
    (c_card_of : PySem.W.codeIn K cd_card_of "card_of" = true)
    (k_card_of : PySem.W.keepIn K (.ref f_card_of) = true)
    (a_law_take : PySem.W.nsIn K mainGlobals "_law_take" = some (some (.ref f_law_take)))
    (l_law_take : K.lookup f_law_take = some ⟨oc_law_take, od_law_take, .func (PySem.W.fnOf "_law_take" "_law_take" (defArgs s_law_take) (defBody s_law_take) (defScope s_law_take) .none kV_law_take dc_law_take pm_law_take an_law_take cd_law_take ct_law_take), sl_law_take⟩)
    (c_law_take : PySem.W.codeIn K cd_law_take "_law_take" = true)
    (k_law_take : PySem.W.keepIn K (.ref f_law_take) = true)
    (a_law_schedule : PySem.W.nsIn K mainGlobals "_law_schedule" = some (some (.ref f_law_schedule)))
    (l_law_schedule : K.lookup f_law_schedule = some ⟨oc_law_schedule, od_law_schedule, .func (PySem.W.fnOf "_law_schedule" "_law_schedule" (defArgs s_law_schedule) (defBody s_law_schedule) (defScope s_law_schedule) .none kV_law_schedule dc_law_schedule pm_law_schedule an_law_schedule cd_law_schedule ct_law_schedule), sl_law_schedule⟩)
    (c_law_schedule : PySem.W.codeIn K cd_law_schedule "_law_schedule" = true)
    (k_law_schedule : PySem.W.keepIn K (.ref f_law_schedule) = true)
    (a_law_ranks : PySem.W.nsIn K mainGlobals "_law_ranks" = some (some (.ref f_law_ranks)))
    (l_law_ranks : K.lookup f_law_ranks = some ⟨oc_law_ranks, od_law_ranks, .func (PySem.W.fnOf "_law_ranks" "_law_ranks" (defArgs s_law_ranks) (defBody s_law_ranks) (defScope s_law_ranks) .none kV_law_ranks dc_law_ranks pm_law_ranks an_law_ranks cd_law_ranks ct_law_ranks), sl_law_ranks⟩)
    (c_law_ranks : PySem.W.codeIn K cd_law_ranks "_law_ranks" = true)
    (k_law_ranks : PySem.W.keepIn K (.ref f_law_ranks) = true)
    (a_law_some_size : PySem.W.nsIn K mainGlobals "_law_some_size" = some (some (.ref f_law_some_size)))
    (l_law_some_size : K.lookup f_law_some_size = some ⟨oc_law_some_size, od_law_some_size, .func (PySem.W.fnOf "_law_some_size" "_law_some_size" (defArgs s_law_some_size) (defBody s_law_some_size) (defScope s_law_some_size) .none kV_law_some_size dc_law_some_size pm_law_some_size an_law_some_size cd_law_some_size ct_law_some_size), sl_law_some_size⟩)
    (c_law_some_size : PySem.W.codeIn K cd_law_some_size "_law_some_size" = true)
    (k_law_some_size : PySem.W.keepIn K (.ref f_law_some_size) = true)
    (a_law_bag : PySem.W.nsIn K mainGlobals "_law_bag" = some (some (.ref f_law_bag)))
    (l_law_bag : K.lookup f_law_bag = some ⟨oc_law_bag, od_law_bag, .func (PySem.W.fnOf "_law_bag" "_law_bag" (defArgs s_law_bag) (defBody s_law_bag) (defScope s_law_bag) .none kV_law_bag dc_law_bag pm_law_bag an_law_bag cd_law_bag ct_law_bag), sl_law_bag⟩)
    (c_law_bag : PySem.W.codeIn K cd_law_bag "_law_bag" = true)
    (k_law_bag : PySem.W.keepIn K (.ref f_law_bag) = true)
    (a_law : PySem.W.nsIn K mainGlobals "law" = some (some (.ref f_law)))
    (l_law : K.lookup f_law = some ⟨oc_law, od_law, .func (PySem.W.fnOf "law" "law" (defArgs s_law) (defBody s_law) (defScope s_law) .none kV_law dc_law pm_law an_law cd_law ct_law), sl_law⟩)
    (c_law : PySem.W.codeIn K cd_law "law" = true)
    (k_law : PySem.W.keepIn K (.ref f_law) = true)
    (pg_Card : PySem.W.plainGet K C_Card Str.empty = true)
    (hd_Card : PySem.W.hasDictIn K C_Card = true)
    (po_Card : PySem.W.plainOver K C_Card = true)
    (sa_Card : PySem.W.findIn K (.ref C_Card) "__setattr__" = some (some (.builtin "object.__setattr__")))
    (n_Card_places : PySem.W.findIn K (.ref C_Card) "places" = some none)
    (n_Card_tables : PySem.W.findIn K (.ref C_Card) "tables" = some none)
    (mk_Card : PySem.W.makesIn K C_Card = true)
    (kc_Card : PySem.W.keepIn K (.ref C_Card) = true)
    (pg_Ring : PySem.W.plainGet K C_Ring Str.empty = true)
    (hd_Ring : PySem.W.hasDictIn K C_Ring = true)
    (po_Ring : PySem.W.plainOver K C_Ring = true)
    (sa_Ring : PySem.W.findIn K (.ref C_Ring) "__setattr__" = some (some (.builtin "object.__setattr__")))
    (n_Ring_rank_list : PySem.W.findIn K (.ref C_Ring) "rank_list" = some none)
    (mk_Ring : PySem.W.makesIn K C_Ring = true)
    (kc_Ring : PySem.W.keepIn K (.ref C_Ring) = true)
    (z_abs : PySem.W.nsIn K mainGlobals "abs" = some none)
    (z_all : PySem.W.nsIn K mainGlobals "all" = some none)
    (z_bool : PySem.W.nsIn K mainGlobals "bool" = some none)
    (z_divmod : PySem.W.nsIn K mainGlobals "divmod" = some none)
    (z_enumerate : PySem.W.nsIn K mainGlobals "enumerate" = some none)
    (z_int : PySem.W.nsIn K mainGlobals "int" = some none)
    (z_isinstance : PySem.W.nsIn K mainGlobals "isinstance" = some none)
    (z_len : PySem.W.nsIn K mainGlobals "len" = some none)
    (z_list : PySem.W.nsIn K mainGlobals "list" = some none)
    (z_max : PySem.W.nsIn K mainGlobals "max" = some none)
    (z_min : PySem.W.nsIn K mainGlobals "min" = some none)
    (z_range : PySem.W.nsIn K mainGlobals "range" = some none)
    (z_set : PySem.W.nsIn K mainGlobals "set" = some none)
    (z_sorted : PySem.W.nsIn K mainGlobals "sorted" = some none)
    (z_str : PySem.W.nsIn K mainGlobals "str" = some none)
    (z_sum : PySem.W.nsIn K mainGlobals "sum" = some none)
    (z_tuple : PySem.W.nsIn K mainGlobals "tuple" = some none)
    (g_MOST_PLACES : PySem.W.nsIn K mainGlobals "MOST_PLACES" = some (some (.int 12 t_MOST_PLACES)))
    : ∃ fd : FuncData, (∀ (s : Shared) (v : Value), BindsTo s fd ⟨[v], []⟩ [("_law_script", v)]) ∧ ∀ base : Heap, K.In base → base.Ns mainGlobals mg → FnG l.prog w K mg base 9 fa fd ["_law_script"] (spD K [.S] slaw) := by
  have e := hfa.symm.trans (PySem.W.mg_of X G a_law)
  cases e
  have F_law_ended := fun_mk (st := s_law_ended) l_law_ended c_law_ended k_law_ended
  have b_law_ended := F_law_ended.binds (ps := ["_law_there"]) fun _ _ _ _ _ _ us hl => match us, hl with | [_], _ => rfl
  have F_law_after := fun_mk (st := s_law_after) l_law_after c_law_after k_law_after
  have b_law_after := F_law_after.binds (ps := ["_law_ranks_here", "_law_there"]) fun _ _ _ _ _ _ us hl => match us, hl with | [_, _], _ => rfl
  have F_law_called := fun_mk (st := s_law_called) l_law_called c_law_called k_law_called
  have b_law_called := F_law_called.binds (ps := ["_law_ranks_here", "_law_there", "_law_gap"]) fun _ _ _ _ _ _ us hl => match us, hl with | [_, _, _], _ => rfl
  have F_law_standing := fun_mk (st := s_law_standing) l_law_standing c_law_standing k_law_standing
  have b_law_standing := F_law_standing.binds (ps := ["_law_size"]) fun _ _ _ _ _ _ us hl => match us, hl with | [_], _ => rfl
  have F_law_run := fun_mk (st := s_law_run) l_law_run c_law_run k_law_run
  have b_law_run := F_law_run.binds (ps := ["_law_ranks_here", "_law_schedule_here"]) fun _ _ _ _ _ _ us hl => match us, hl with | [_, _], _ => rfl
  have F_law_laps_right := fun_mk (st := s_law_laps_right) l_law_laps_right c_law_laps_right k_law_laps_right
  have b_law_laps_right := F_law_laps_right.binds (ps := ["_law_ranks_here", "_law_schedule_here", "_law_laps"]) fun _ _ _ _ _ _ us hl => match us, hl with | [_, _, _], _ => rfl
  have F_Card_size := fun_mk (st := s_Card_size) l_Card_size c_Card_size k_Card_size
  have b_Card_size := F_Card_size.binds (ps := ["self"]) fun _ _ _ _ _ _ us hl => match us, hl with | [_], _ => rfl
  have F_is_less := fun_mk (st := s_is_less) l_is_less c_is_less k_is_less
  have b_is_less := F_is_less.binds (ps := ["one", "other"]) fun _ _ _ _ _ _ us hl => match us, hl with | [_, _], _ => rfl
  have F_least_of := fun_mk (st := s_least_of) l_least_of c_least_of k_least_of
  have b_least_of := F_least_of.binds (ps := ["fractions"]) fun _ _ _ _ _ _ us hl => match us, hl with | [_], _ => rfl
  have F_greatest_of := fun_mk (st := s_greatest_of) l_greatest_of c_greatest_of k_greatest_of
  have b_greatest_of := F_greatest_of.binds (ps := ["fractions"]) fun _ _ _ _ _ _ us hl => match us, hl with | [_], _ => rfl
  have F_common_divisor := fun_mk (st := s_common_divisor) l_common_divisor c_common_divisor k_common_divisor
  have b_common_divisor := F_common_divisor.binds (ps := ["one", "other"]) fun _ _ _ _ _ _ us hl => match us, hl with | [_, _], _ => rfl
  have F_fraction := fun_mk (st := s_fraction) l_fraction c_fraction k_fraction
  have b_fraction := F_fraction.binds (ps := ["numerator", "denominator"]) fun _ _ _ _ _ _ us hl => match us, hl with | [_, _], _ => rfl
  have F_Card_value := fun_mk (st := s_Card_value) l_Card_value c_Card_value k_Card_value
  have b_Card_value := F_Card_value.binds (ps := ["self", "count", "begin", "end"]) fun _ _ _ _ _ _ us hl => match us, hl with | [_, _, _, _], _ => rfl
  have F_step_sums := fun_mk (st := s_step_sums) l_step_sums c_step_sums k_step_sums
  have b_step_sums := F_step_sums.binds (ps := ["card", "count"]) fun _ _ _ _ _ _ us hl => match us, hl with | [_, _], _ => rfl
  have F_rate := fun_mk (st := s_rate) l_rate c_rate k_rate
  have b_rate := F_rate.binds (ps := ["card", "count"]) fun _ _ _ _ _ _ us hl => match us, hl with | [_, _], _ => rfl
  have F_law_steps_right := fun_mk (st := s_law_steps_right) l_law_steps_right c_law_steps_right k_law_steps_right
  have b_law_steps_right := F_law_steps_right.binds (ps := ["_law_card"]) fun _ _ _ _ _ _ us hl => match us, hl with | [_], _ => rfl
  have F_law_is_less := fun_mk (st := s_law_is_less) l_law_is_less c_law_is_less k_law_is_less
  have b_law_is_less := F_law_is_less.binds (ps := ["_law_one", "_law_other"]) fun _ _ _ _ _ _ us hl => match us, hl with | [_, _], _ => rfl
  have F_law_order_right := fun_mk (st := s_law_order_right) l_law_order_right c_law_order_right k_law_order_right
  have b_law_order_right := F_law_order_right.binds (ps := ["_law_ranks_here", "_law_laps"]) fun _ _ _ _ _ _ us hl => match us, hl with | [_, _], _ => rfl
  have F_Ring_ranks := fun_mk (st := s_Ring_ranks) l_Ring_ranks c_Ring_ranks k_Ring_ranks
  have b_Ring_ranks := F_Ring_ranks.binds (ps := ["self"]) fun _ _ _ _ _ _ us hl => match us, hl with | [_], _ => rfl
  have F_lap_rates := fun_mk (st := s_lap_rates) l_lap_rates c_lap_rates k_lap_rates
  have b_lap_rates := F_lap_rates.binds (ps := ["card", "ring"]) fun _ _ _ _ _ _ us hl => match us, hl with | [_, _], _ => rfl
  have F_is_integer := fun_mk (st := s_is_integer) l_is_integer c_is_integer k_is_integer
  have b_is_integer := F_is_integer.binds (ps := ["thing"]) fun _ _ _ _ _ _ us hl => match us, hl with | [_], _ => rfl
  have F_is_between := fun_mk (st := s_is_between) l_is_between c_is_between k_is_between
  have b_is_between := F_is_between.binds (ps := ["thing", "least", "most"]) fun _ _ _ _ _ _ us hl => match us, hl with | [_, _, _], _ => rfl
  have F_is_size := fun_mk (st := s_is_size) l_is_size c_is_size k_is_size
  have b_is_size := F_is_size.binds (ps := ["thing"]) fun _ _ _ _ _ _ us hl => match us, hl with | [_], _ => rfl
  have F_Ring___init__ := fun_mk (st := s_Ring___init__) l_Ring___init__ c_Ring___init__ k_Ring___init__
  have b_Ring___init__ := F_Ring___init__.binds (ps := ["self", "ranks"]) fun _ _ _ _ _ _ us hl => match us, hl with | [_, _], _ => rfl
  have F_Card___init__ := fun_mk (st := s_Card___init__) l_Card___init__ c_Card___init__ k_Card___init__
  have b_Card___init__ := F_Card___init__.binds (ps := ["self", "places", "tables"]) fun _ _ _ _ _ _ us hl => match us, hl with | [_, _, _], _ => rfl
  have F_Ring_strong := fun_mk (st := s_Ring_strong) l_Ring_strong c_Ring_strong k_Ring_strong
  have b_Ring_strong := F_Ring_strong.binds (ps := ["self", "bound"]) fun _ _ _ _ _ _ us hl => match us, hl with | [_, _], _ => rfl
  have F_Ring_size := fun_mk (st := s_Ring_size) l_Ring_size c_Ring_size k_Ring_size
  have b_Ring_size := F_Ring_size.binds (ps := ["self"]) fun _ _ _ _ _ _ us hl => match us, hl with | [_], _ => rfl
  have F_Ring_up_to := fun_mk (st := s_Ring_up_to) l_Ring_up_to c_Ring_up_to k_Ring_up_to
  have b_Ring_up_to := F_Ring_up_to.binds (ps := ["self", "bound", "gap"]) fun _ _ _ _ _ _ us hl => match us, hl with | [_, _, _], _ => rfl
  have F_levels_after := fun_mk (st := s_levels_after) l_levels_after c_levels_after k_levels_after
  have b_levels_after := F_levels_after.binds (ps := ["levels", "count", "schedule"]) fun _ _ _ _ _ _ us hl => match us, hl with | [_, _, _], _ => rfl
  have F_Ring_block := fun_mk (st := s_Ring_block) l_Ring_block c_Ring_block k_Ring_block
  have b_Ring_block := F_Ring_block.binds (ps := ["cls", "size", "count", "last"]) fun _ _ _ _ _ _ us hl => match us, hl with | [_, _, _, _], _ => rfl
  have F_block_values := fun_mk (st := s_block_values) l_block_values c_block_values k_block_values
  have b_block_values := F_block_values.binds (ps := ["size", "count", "begin", "schedule"]) fun _ _ _ _ _ _ us hl => match us, hl with | [_, _, _, _], _ => rfl
  have F_card_of := fun_mk (st := s_card_of) l_card_of c_card_of k_card_of
  have b_card_of := F_card_of.binds (ps := ["size", "schedule"]) fun _ _ _ _ _ _ us hl => match us, hl with | [_, _], _ => rfl
  have F_law_take := fun_mk (st := s_law_take) l_law_take c_law_take k_law_take
  have b_law_take := F_law_take.binds (ps := ["_law_bag_here", "_law_many"]) fun _ _ _ _ _ _ us hl => match us, hl with | [_, _], _ => rfl
  have F_law_schedule := fun_mk (st := s_law_schedule) l_law_schedule c_law_schedule k_law_schedule
  have b_law_schedule := F_law_schedule.binds (ps := ["_law_bag_here", "_law_size", "_law_most"]) fun _ _ _ _ _ _ us hl => match us, hl with | [_, _, _], _ => rfl
  have F_law_ranks := fun_mk (st := s_law_ranks) l_law_ranks c_law_ranks k_law_ranks
  have b_law_ranks := F_law_ranks.binds (ps := ["_law_bag_here", "_law_size"]) fun _ _ _ _ _ _ us hl => match us, hl with | [_, _], _ => rfl
  have F_law_some_size := fun_mk (st := s_law_some_size) l_law_some_size c_law_some_size k_law_some_size
  have b_law_some_size := F_law_some_size.binds (ps := ["_law_bag_here", "_law_most"]) fun _ _ _ _ _ _ us hl => match us, hl with | [_, _], _ => rfl
  have F_law_bag := fun_mk (st := s_law_bag) l_law_bag c_law_bag k_law_bag
  have b_law_bag := F_law_bag.binds (ps := ["_law_script"]) fun _ _ _ _ _ _ us hl => match us, hl with | [_], _ => rfl
  have F_law := fun_mk (st := s_law) l_law c_law k_law
  have b_law := F_law.binds (ps := ["_law_script"]) fun _ _ _ _ _ _ us hl => match us, hl with | [_], _ => rfl
  have cl_Card : Cls K C_Card := ⟨pg_Card, hd_Card, po_Card, sa_Card⟩
  have cl_Ring : Cls K C_Ring := ⟨pg_Ring, hd_Ring, po_Ring, sa_Ring⟩
  refine ⟨PySem.W.fnOf "law" "law" (defArgs s_law) (defBody s_law) (defScope s_law) .none kV_law dc_law pm_law an_law cd_law ct_law, fun s v => .of_eq rfl, fun base _ _ => ?_⟩
  have G_law_ended := walk_law_ended (P := l.prog) (w := w) (mg := mg) (base := base) F_law_ended (PySem.W.mg_none_of X G z_tuple) (PySem.W.mg_none_of X G z_range) (PySem.W.mg_none_of X G z_len) (sd := slaw_ended) v_law_ended
  have G_law_after := walk_law_after (P := l.prog) (w := w) (mg := mg) (base := base) F_law_after (PySem.W.mg_none_of X G z_len) (sd := slaw_after) v_law_after
  have G_law_called := walk_law_called (P := l.prog) (w := w) (mg := mg) (base := base) F_law_called (PySem.W.mg_none_of X G z_len) (sd := slaw_called) v_law_called
  have G_law_standing := walk_law_standing (P := l.prog) (w := w) (mg := mg) (base := base) F_law_standing (PySem.W.mg_none_of X G z_list) (PySem.W.mg_none_of X G z_range) (sd := slaw_standing) v_law_standing
  have G_law_run := walk_law_run (P := l.prog) (w := w) (mg := mg) (base := base) F_law_run G_law_called (PySem.W.mg_of X G a_law_called) k_law_called b_law_called G_law_standing (PySem.W.mg_of X G a_law_standing) k_law_standing b_law_standing (PySem.W.mg_none_of X G z_enumerate) (PySem.W.mg_none_of X G z_len) (sd := slaw_run) v_law_run
  have G_law_laps_right := walk_law_laps_right (P := l.prog) (w := w) (mg := mg) (base := base) F_law_laps_right G_law_ended (PySem.W.mg_of X G a_law_ended) k_law_ended b_law_ended G_law_after (PySem.W.mg_of X G a_law_after) k_law_after b_law_after G_law_run (PySem.W.mg_of X G a_law_run) k_law_run b_law_run (PySem.W.mg_none_of X G z_range) (PySem.W.mg_none_of X G z_sorted) (PySem.W.mg_none_of X G z_set) (PySem.W.mg_none_of X G z_len) (PySem.W.mg_none_of X G z_sum) (PySem.W.mg_none_of X G z_str) (sd := slaw_laps_right) v_law_laps_right
  have G_Card_size := walk_Card_size (P := l.prog) (w := w) (mg := mg) (base := base) F_Card_size n_Card_places cl_Card (sd := (sCard_size C_Card)) v_Card_size
  have G_is_less := walk_is_less (P := l.prog) (w := w) (mg := mg) (base := base) F_is_less (sd := sis_less) v_is_less
  have G_least_of := walk_least_of (P := l.prog) (w := w) (mg := mg) (base := base) F_least_of G_is_less (PySem.W.mg_of X G a_is_less) k_is_less b_is_less (sd := sleast_of) v_least_of
  have G_greatest_of := walk_greatest_of (P := l.prog) (w := w) (mg := mg) (base := base) F_greatest_of G_is_less (PySem.W.mg_of X G a_is_less) k_is_less b_is_less (sd := sgreatest_of) v_greatest_of
  have G_common_divisor := walk_common_divisor (P := l.prog) (w := w) (mg := mg) (base := base) F_common_divisor (PySem.W.mg_none_of X G z_abs) (sd := scommon_divisor) v_common_divisor
  have G_fraction := walk_fraction (P := l.prog) (w := w) (mg := mg) (base := base) F_fraction G_common_divisor (PySem.W.mg_of X G a_common_divisor) k_common_divisor b_common_divisor (sd := sfraction) v_fraction
  have G_Card_value := walk_Card_value (P := l.prog) (w := w) (mg := mg) (base := base) F_Card_value n_Card_tables cl_Card (sd := (sCard_value C_Card)) v_Card_value
  have G_step_sums := walk_step_sums (P := l.prog) (w := w) (mg := mg) (base := base) F_step_sums G_Card_value b_Card_value G_Card_size b_Card_size cl_Card ⟨a_Card_value, i_Card_value, k_Card_value⟩ ⟨a_Card_size, gt_Card_size, tk_Card_size, _, rc_Card_size⟩ (PySem.W.mg_none_of X G z_min) (PySem.W.mg_none_of X G z_list) (PySem.W.mg_none_of X G z_range) (sd := (sstep_sums C_Card)) v_step_sums
  have G_rate := walk_rate (P := l.prog) (w := w) (mg := mg) (base := base) F_rate G_least_of (PySem.W.mg_of X G a_least_of) k_least_of b_least_of G_greatest_of (PySem.W.mg_of X G a_greatest_of) k_greatest_of b_greatest_of G_fraction (PySem.W.mg_of X G a_fraction) k_fraction b_fraction G_step_sums (PySem.W.mg_of X G a_step_sums) k_step_sums b_step_sums G_Card_size b_Card_size ⟨a_Card_size, gt_Card_size, tk_Card_size, _, rc_Card_size⟩ cl_Card (PySem.W.mg_none_of X G z_range) (sd := (srate C_Card)) v_rate
  have G_law_steps_right := walk_law_steps_right (P := l.prog) (w := w) (mg := mg) (base := base) F_law_steps_right G_Card_size b_Card_size G_rate (PySem.W.mg_of X G a_rate) k_rate b_rate ⟨a_Card_size, gt_Card_size, tk_Card_size, _, rc_Card_size⟩ cl_Card (PySem.W.mg_none_of X G z_range) (sd := (slaw_steps_right C_Card)) v_law_steps_right
  have G_law_is_less := walk_law_is_less (P := l.prog) (w := w) (mg := mg) (base := base) F_law_is_less (sd := slaw_is_less) v_law_is_less
  have G_law_order_right := walk_law_order_right (P := l.prog) (w := w) (mg := mg) (base := base) F_law_order_right G_law_is_less (PySem.W.mg_of X G a_law_is_less) k_law_is_less b_law_is_less (PySem.W.mg_none_of X G z_range) (PySem.W.mg_none_of X G z_len) (sd := slaw_order_right) v_law_order_right
  have G_Ring_ranks := walk_Ring_ranks (P := l.prog) (w := w) (mg := mg) (base := base) F_Ring_ranks n_Ring_rank_list cl_Ring (PySem.W.mg_none_of X G z_list) (sd := (sRing_ranks C_Ring)) v_Ring_ranks
  have G_lap_rates := walk_lap_rates (P := l.prog) (w := w) (mg := mg) (base := base) F_lap_rates G_Ring_ranks b_Ring_ranks G_fraction (PySem.W.mg_of X G a_fraction) k_fraction b_fraction G_rate (PySem.W.mg_of X G a_rate) k_rate b_rate cl_Ring ⟨a_Ring_ranks, i_Ring_ranks, k_Ring_ranks⟩ (PySem.W.mg_none_of X G z_len) (sd := (slap_rates C_Card C_Ring)) v_lap_rates
  have G_is_integer := walk_is_integer (P := l.prog) (w := w) (mg := mg) (base := base) F_is_integer (PySem.W.mg_none_of X G z_isinstance) (PySem.W.mg_none_of X G z_bool) (PySem.W.mg_none_of X G z_int) (sd := sis_integer) v_is_integer
  have G_is_between := walk_is_between (P := l.prog) (w := w) (mg := mg) (base := base) F_is_between G_is_integer (PySem.W.mg_of X G a_is_integer) k_is_integer b_is_integer (sd := sis_between) v_is_between
  have G_is_size := walk_is_size (P := l.prog) (w := w) (mg := mg) (base := base) F_is_size G_is_between (PySem.W.mg_of X G a_is_between) k_is_between b_is_between (PySem.W.mg_of X G g_MOST_PLACES) (sd := sis_size) v_is_size
  have G_Ring___init__ := walk_Ring___init__ (P := l.prog) (w := w) (mg := mg) (base := base) F_Ring___init__ G_is_integer (PySem.W.mg_of X G a_is_integer) k_is_integer b_is_integer G_is_size (PySem.W.mg_of X G a_is_size) k_is_size b_is_size n_Ring_rank_list cl_Ring (PySem.W.mg_none_of X G z_list) (PySem.W.mg_none_of X G z_all) (PySem.W.mg_none_of X G z_len) (PySem.W.mg_none_of X G z_isinstance) (sd := (sRing___init__ C_Ring)) v_Ring___init__
  have G_Card___init__ := walk_Card___init__ (P := l.prog) (w := w) (mg := mg) (base := base) F_Card___init__ n_Card_tables cl_Card n_Card_places (sd := (sCard___init__ C_Card)) v_Card___init__
  have G_Ring_strong := walk_Ring_strong (P := l.prog) (w := w) (mg := mg) (base := base) F_Ring_strong n_Ring_rank_list cl_Ring (PySem.W.mg_none_of X G z_enumerate) (sd := (sRing_strong C_Ring)) v_Ring_strong
  have G_Ring_size := walk_Ring_size (P := l.prog) (w := w) (mg := mg) (base := base) F_Ring_size n_Ring_rank_list cl_Ring (PySem.W.mg_none_of X G z_len) (sd := (sRing_size C_Ring)) v_Ring_size
  have G_Ring_up_to := walk_Ring_up_to (P := l.prog) (w := w) (mg := mg) (base := base) F_Ring_up_to G_Ring_strong b_Ring_strong G_Ring_size b_Ring_size cl_Ring ⟨a_Ring_strong, i_Ring_strong, k_Ring_strong⟩ ⟨a_Ring_size, gt_Ring_size, tk_Ring_size, _, rc_Ring_size⟩ (PySem.W.mg_none_of X G z_len) (PySem.W.mg_none_of X G z_divmod) (sd := (sRing_up_to C_Ring)) v_Ring_up_to
  have G_levels_after := walk_levels_after (P := l.prog) (w := w) (mg := mg) (base := base) F_levels_after (PySem.W.mg_none_of X G z_min) (PySem.W.mg_none_of X G z_list) (PySem.W.mg_none_of X G z_len) (sd := slevels_after) v_levels_after
  have G_Ring_block := walk_Ring_block (P := l.prog) (w := w) (mg := mg) (base := base) F_Ring_block G_Ring___init__ b_Ring___init__ ⟨mk_Ring, a_Ring___init__, i_Ring___init__, kc_Ring⟩ (PySem.W.mg_none_of X G z_range) (PySem.W.mg_none_of X G z_int) (sd := (sRing_block C_Ring)) v_Ring_block
  have G_block_values := walk_block_values (P := l.prog) (w := w) (mg := mg) (base := base) F_block_values G_Ring_up_to b_Ring_up_to G_levels_after (PySem.W.mg_of X G a_levels_after) k_levels_after b_levels_after G_Ring_block b_Ring_block cl_Ring ⟨a_Ring_up_to, i_Ring_up_to, k_Ring_up_to⟩ ⟨rd_Ring_block, ga_Ring_block⟩ ⟨a_Ring_block, ⟨_, rc_Ring_block⟩, fi_Ring_block⟩ (PySem.W.mg_of X G g_Ring) (PySem.W.mg_none_of X G z_range) (sd := (sblock_values C_Ring)) v_block_values
  have G_card_of := walk_card_of (P := l.prog) (w := w) (mg := mg) (base := base) F_card_of G_Card___init__ b_Card___init__ G_block_values (PySem.W.mg_of X G a_block_values) k_block_values b_block_values ⟨mk_Card, a_Card___init__, i_Card___init__, kc_Card⟩ (PySem.W.mg_of X G g_Card) (PySem.W.mg_none_of X G z_range) (sd := (scard_of C_Card C_Ring)) v_card_of
  have G_law_take := walk_law_take (P := l.prog) (w := w) (mg := mg) (base := base) F_law_take (PySem.W.mg_none_of X G z_len) (sd := slaw_take) v_law_take
  have G_law_schedule := walk_law_schedule (P := l.prog) (w := w) (mg := mg) (base := base) F_law_schedule G_law_take (PySem.W.mg_of X G a_law_take) k_law_take b_law_take (PySem.W.mg_none_of X G z_range) (PySem.W.mg_none_of X G z_max) (PySem.W.mg_none_of X G z_abs) (PySem.W.mg_none_of X G z_min) (sd := slaw_schedule) v_law_schedule
  have G_law_ranks := walk_law_ranks (P := l.prog) (w := w) (mg := mg) (base := base) F_law_ranks G_law_take (PySem.W.mg_of X G a_law_take) k_law_take b_law_take (PySem.W.mg_none_of X G z_int) (PySem.W.mg_none_of X G z_range) (sd := slaw_ranks) v_law_ranks
  have G_law_some_size := walk_law_some_size (P := l.prog) (w := w) (mg := mg) (base := base) F_law_some_size G_law_take (PySem.W.mg_of X G a_law_take) k_law_take b_law_take (PySem.W.mg_none_of X G z_min) (sd := slaw_some_size) v_law_some_size
  have G_law_bag := walk_law_bag (P := l.prog) (w := w) (mg := mg) (base := base) F_law_bag (PySem.W.mg_none_of X G z_abs) (sd := slaw_bag) v_law_bag
  have G_law := walk_law (P := l.prog) (w := w) (mg := mg) (base := base) F_law G_law_laps_right (PySem.W.mg_of X G a_law_laps_right) k_law_laps_right b_law_laps_right G_law_steps_right (PySem.W.mg_of X G a_law_steps_right) k_law_steps_right b_law_steps_right G_law_order_right (PySem.W.mg_of X G a_law_order_right) k_law_order_right b_law_order_right G_lap_rates (PySem.W.mg_of X G a_lap_rates) k_lap_rates b_lap_rates G_Ring___init__ b_Ring___init__ G_card_of (PySem.W.mg_of X G a_card_of) k_card_of b_card_of G_law_schedule (PySem.W.mg_of X G a_law_schedule) k_law_schedule b_law_schedule G_law_ranks (PySem.W.mg_of X G a_law_ranks) k_law_ranks b_law_ranks G_law_some_size (PySem.W.mg_of X G a_law_some_size) k_law_some_size b_law_some_size G_law_bag (PySem.W.mg_of X G a_law_bag) k_law_bag b_law_bag ⟨mk_Ring, a_Ring___init__, i_Ring___init__, kc_Ring⟩ (PySem.W.mg_of X G g_Ring) (PySem.W.mg_none_of X G z_range) (PySem.W.mg_none_of X G z_list) (sd := slaw) v_law
  exact G_law
theorem law_true : lawSp slaw := fun ns _ => law_fin ns
end LW
open PySem PySem.W PyProof.Rows
set_option maxHeartbeats 0 in
theorem PySem.Challenge.cw_ringcalls_k56_whole_nobody_slower_than_w_holds : PySem.Challenge.rw_ringcalls_k56_whole_nobody_slower_than_w.Holds := by
  w_on; o_law; k_head; (case hw => w_witness2)
  k_fill
  refine DL.walk_g (l := PySem.Challenge.rw_ringcalls_k56_whole_nobody_slower_than_w) (n := 63) (k := 9) (x := "_law_script") (sd := LW.slaw) rfl (by decide) rfl ⟨rfl, by decide, by decide⟩ (fun w h Y => PySem.W.kIn_of Y) ?F LW.law_true
  case F =>
    intro w mg fa h KX G hmg
    refine' LW.all_mk KX G hmg ?g_Card ?g_Ring ?a_law_ended ?l_law_ended ?c_law_ended ?k_law_ended ?a_law_after ?l_law_after ?c_law_after ?k_law_after ?a_law_called ?l_law_called ?c_law_called ?k_law_called ?a_law_standing ?l_law_standing ?c_law_standing ?k_law_standing ?a_law_run ?l_law_run ?c_law_run ?k_law_run ?a_law_laps_right ?l_law_laps_right ?c_law_laps_right ?k_law_laps_right ?a_Card_size ?gt_Card_size ?tk_Card_size ?rc_Card_size ?l_Card_size ?c_Card_size ?k_Card_size ?a_is_less ?l_is_less ?c_is_less ?k_is_less ?a_least_of ?l_least_of ?c_least_of ?k_least_of ?a_greatest_of ?l_greatest_of ?c_greatest_of ?k_greatest_of ?a_common_divisor ?l_common_divisor ?c_common_divisor ?k_common_divisor ?a_fraction ?l_fraction ?c_fraction ?k_fraction ?a_Card_value ?i_Card_value ?l_Card_value ?c_Card_value ?k_Card_value ?a_step_sums ?l_step_sums ?c_step_sums ?k_step_sums ?a_rate ?l_rate ?c_rate ?k_rate ?a_law_steps_right ?l_law_steps_right ?c_law_steps_right ?k_law_steps_right ?a_law_is_less ?l_law_is_less ?c_law_is_less ?k_law_is_less ?a_law_order_right ?l_law_order_right ?c_law_order_right ?k_law_order_right ?a_Ring_ranks ?i_Ring_ranks ?l_Ring_ranks ?c_Ring_ranks ?k_Ring_ranks ?a_lap_rates ?l_lap_rates ?c_lap_rates ?k_lap_rates ?a_is_integer ?l_is_integer ?c_is_integer ?k_is_integer ?a_is_between ?l_is_between ?c_is_between ?k_is_between ?a_is_size ?l_is_size ?c_is_size ?k_is_size ?a_Ring___init__ ?i_Ring___init__ ?l_Ring___init__ ?c_Ring___init__ ?k_Ring___init__ ?a_Card___init__ ?i_Card___init__ ?l_Card___init__ ?c_Card___init__ ?k_Card___init__ ?a_Ring_strong ?i_Ring_strong ?l_Ring_strong ?c_Ring_strong ?k_Ring_strong ?a_Ring_size ?gt_Ring_size ?tk_Ring_size ?rc_Ring_size ?l_Ring_size ?c_Ring_size ?k_Ring_size ?a_Ring_up_to ?i_Ring_up_to ?l_Ring_up_to ?c_Ring_up_to ?k_Ring_up_to ?a_levels_after ?l_levels_after ?c_levels_after ?k_levels_after ?rd_Ring_block ?ga_Ring_block ?a_Ring_block ?rc_Ring_block ?fi_Ring_block ?l_Ring_block ?c_Ring_block ?k_Ring_block ?a_block_values ?l_block_values ?c_block_values ?k_block_values ?a_card_of ?l_card_of ?c_card_of ?k_card_of ?a_law_take ?l_law_take ?c_law_take ?k_law_take ?a_law_schedule ?l_law_schedule ?c_law_schedule ?k_law_schedule ?a_law_ranks ?l_law_ranks ?c_law_ranks ?k_law_ranks ?a_law_some_size ?l_law_some_size ?c_law_some_size ?k_law_some_size ?a_law_bag ?l_law_bag ?c_law_bag ?k_law_bag ?a_law ?l_law ?c_law ?k_law ?pg_Card ?hd_Card ?po_Card ?sa_Card ?n_Card_places ?n_Card_tables ?mk_Card ?kc_Card ?pg_Ring ?hd_Ring ?po_Ring ?sa_Ring ?n_Ring_rank_list ?mk_Ring ?kc_Ring ?z_abs ?z_all ?z_bool ?z_divmod ?z_enumerate ?z_int ?z_isinstance ?z_len ?z_list ?z_max ?z_min ?z_range ?z_set ?z_sorted ?z_str ?z_sum ?z_tuple ?g_MOST_PLACES
    (case g_Card => k_is); (case g_Ring => k_is); (case a_law_ended => k_is); (case l_law_ended => k_is); (case c_law_ended => k_is); (case k_law_ended => k_is); (case a_law_after => k_is); (case l_law_after => k_is); (case c_law_after => k_is); (case k_law_after => k_is); (case a_law_called => k_is); (case l_law_called => k_is); (case c_law_called => k_is); (case k_law_called => k_is); (case a_law_standing => k_is); (case l_law_standing => k_is); (case c_law_standing => k_is); (case k_law_standing => k_is); (case a_law_run => k_is); (case l_law_run => k_is); (case c_law_run => k_is); (case k_law_run => k_is); (case a_law_laps_right => k_is); (case l_law_laps_right => k_is); (case c_law_laps_right => k_is); (case k_law_laps_right => k_is); (case a_Card_size => k_is); (case gt_Card_size => k_is); (case tk_Card_size => k_is); (case rc_Card_size => k_is); (case l_Card_size => k_is); (case c_Card_size => k_is); (case k_Card_size => k_is); (case a_is_less => k_is); (case l_is_less => k_is); (case c_is_less => k_is); (case k_is_less => k_is); (case a_least_of => k_is); (case l_least_of => k_is); (case c_least_of => k_is); (case k_least_of => k_is); (case a_greatest_of => k_is); (case l_greatest_of => k_is); (case c_greatest_of => k_is); (case k_greatest_of => k_is); (case a_common_divisor => k_is); (case l_common_divisor => k_is); (case c_common_divisor => k_is); (case k_common_divisor => k_is); (case a_fraction => k_is); (case l_fraction => k_is); (case c_fraction => k_is); (case k_fraction => k_is); (case a_Card_value => k_is); (case i_Card_value => k_is); (case l_Card_value => k_is); (case c_Card_value => k_is); (case k_Card_value => k_is); (case a_step_sums => k_is); (case l_step_sums => k_is); (case c_step_sums => k_is); (case k_step_sums => k_is); (case a_rate => k_is); (case l_rate => k_is); (case c_rate => k_is); (case k_rate => k_is); (case a_law_steps_right => k_is); (case l_law_steps_right => k_is); (case c_law_steps_right => k_is); (case k_law_steps_right => k_is); (case a_law_is_less => k_is); (case l_law_is_less => k_is); (case c_law_is_less => k_is); (case k_law_is_less => k_is); (case a_law_order_right => k_is); (case l_law_order_right => k_is); (case c_law_order_right => k_is); (case k_law_order_right => k_is); (case a_Ring_ranks => k_is); (case i_Ring_ranks => k_is); (case l_Ring_ranks => k_is); (case c_Ring_ranks => k_is); (case k_Ring_ranks => k_is); (case a_lap_rates => k_is); (case l_lap_rates => k_is); (case c_lap_rates => k_is); (case k_lap_rates => k_is); (case a_is_integer => k_is); (case l_is_integer => k_is); (case c_is_integer => k_is); (case k_is_integer => k_is); (case a_is_between => k_is); (case l_is_between => k_is); (case c_is_between => k_is); (case k_is_between => k_is); (case a_is_size => k_is); (case l_is_size => k_is); (case c_is_size => k_is); (case k_is_size => k_is); (case a_Ring___init__ => k_is); (case i_Ring___init__ => k_is); (case l_Ring___init__ => k_is); (case c_Ring___init__ => k_is); (case k_Ring___init__ => k_is); (case a_Card___init__ => k_is); (case i_Card___init__ => k_is); (case l_Card___init__ => k_is); (case c_Card___init__ => k_is); (case k_Card___init__ => k_is); (case a_Ring_strong => k_is); (case i_Ring_strong => k_is); (case l_Ring_strong => k_is); (case c_Ring_strong => k_is); (case k_Ring_strong => k_is); (case a_Ring_size => k_is); (case gt_Ring_size => k_is); (case tk_Ring_size => k_is); (case rc_Ring_size => k_is); (case l_Ring_size => k_is); (case c_Ring_size => k_is); (case k_Ring_size => k_is); (case a_Ring_up_to => k_is); (case i_Ring_up_to => k_is); (case l_Ring_up_to => k_is); (case c_Ring_up_to => k_is); (case k_Ring_up_to => k_is); (case a_levels_after => k_is); (case l_levels_after => k_is); (case c_levels_after => k_is); (case k_levels_after => k_is); (case rd_Ring_block => k_is); (case ga_Ring_block => k_is); (case a_Ring_block => k_is); (case rc_Ring_block => k_is); (case fi_Ring_block => k_is); (case l_Ring_block => k_is); (case c_Ring_block => k_is); (case k_Ring_block => k_is); (case a_block_values => k_is); (case l_block_values => k_is); (case c_block_values => k_is); (case k_block_values => k_is); (case a_card_of => k_is); (case l_card_of => k_is); (case c_card_of => k_is); (case k_card_of => k_is); (case a_law_take => k_is); (case l_law_take => k_is); (case c_law_take => k_is); (case k_law_take => k_is); (case a_law_schedule => k_is); (case l_law_schedule => k_is); (case c_law_schedule => k_is); (case k_law_schedule => k_is); (case a_law_ranks => k_is); (case l_law_ranks => k_is); (case c_law_ranks => k_is); (case k_law_ranks => k_is); (case a_law_some_size => k_is); (case l_law_some_size => k_is); (case c_law_some_size => k_is); (case k_law_some_size => k_is); (case a_law_bag => k_is); (case l_law_bag => k_is); (case c_law_bag => k_is); (case k_law_bag => k_is); (case a_law => k_is); (case l_law => k_is); (case c_law => k_is); (case k_law => k_is); (case pg_Card => k_is); (case hd_Card => k_is); (case po_Card => k_is); (case sa_Card => k_is); (case n_Card_places => k_is); (case n_Card_tables => k_is); (case mk_Card => k_is); (case kc_Card => k_is); (case pg_Ring => k_is); (case hd_Ring => k_is); (case po_Ring => k_is); (case sa_Ring => k_is); (case n_Ring_rank_list => k_is); (case mk_Ring => k_is); (case kc_Ring => k_is); (case z_abs => k_is); (case z_all => k_is); (case z_bool => k_is); (case z_divmod => k_is); (case z_enumerate => k_is); (case z_int => k_is); (case z_isinstance => k_is); (case z_len => k_is); (case z_list => k_is); (case z_max => k_is); (case z_min => k_is); (case z_range => k_is); (case z_set => k_is); (case z_sorted => k_is); (case z_str => k_is); (case z_sum => k_is); (case z_tuple => k_is); (case g_MOST_PLACES => k_is)
