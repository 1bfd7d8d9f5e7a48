import PyProof.Rows.All
import Wide.All
import OpenK.AllK
import Wide.FinOn
import HandS.Base
import HandS.Call
import HandS.List
import HandS.Words
import HandS.Wide
import HandS.IsInst
import HandS.Comp
import PyProof.Rows.RuleB_pow
import HandS.Style
import KE.KTupSum
import HandS.WordsDict
import HandS.SortInts
import HandS.More
import HandS.Conv
import HandS.Text
import HandS.RaiseMore
import PyProof.MaxThree
import HandS.TupAny
import HandS.Iter
import HandS.Flow
import HandS.WordsExc
import HandS.Ends
import HandS.ExcCtx
import HandS.HotCalls
import HandS.Dict
import PyProof.ReprRoads
import HandS.Deep
import KE.GoesEnum
import PyProof.EnumMake
import HandS.Property
import HandS.ClsMeth
import HandS.OwnEq
import HandS.CallRecv
import HandS.CallLocal
import PyProof.InstNe
import HandS.Strs
import HandS.SetFor
import PyProof.Rows.SetFrom
import PyProof.InstSpecial
import KE.KFmtOwn
import HandS.FStr
import HandS.Rev
import HandS.Zip
import HandS.Defaults
import HandS.ExcOwn
import HandS.ExcInit
import HandS.ExcField
import HandS.ExcIs
import HandS.TryOnly
import KE.KExcIs
import HandS.GenList
import PyProof.ForAny
import HandS.NoneIn
import HandS.SortRule
import HandS.TupLe
import KE.DataMinMax
import HandS.ListItems
import HandS.TupMul
import PyProof.Rows.TupDisplay
import HandS.DictTup
import HandS.TupSets
import KE.KIntText
import KE.KDictZip
import KE.SortData
import HandS.DictComp
import PySem.Challenge.RW_ringcalls_k14_rings_refused
set_option Elab.async false
set_option linter.all false
set_option maxRecDepth 100000
/-! the data layer, part 1: data, what stands for them, slots, what holds between them and the abstract heap -/
namespace DL
open PySem L2
abbrev Fg := PySem.W.Frag
/-- data: values as trees -/
inductive D where
  | non
  | bl (b : Bool)
  | int (i : Int)
  | str (s : Str)
  | lst (ds : List D)
  | scr (ds : List D)
  | tup (ds : List D)
  | dic (kvs : List (Key × D))
  | dit (kvs : List (List Key × D))
  | dkl (kvs : List (Key × D))
  | dtl (kvs : List (List Key × D))
  | pnK (o : Obj) (kvs : List (Key × V))
  | pnT (o : Obj) (kvs : List (List Key × V))
  | obj (C : Addr) (ns : List Str) (ds : List D)
  | cls (C : Addr)
  | xcl (c : Value) (n : Str)
  | sto (S : List (Addr × D))
/-- the cells of the store -/
abbrev Stor := List (Addr × D)
/-- the class that a name of the module stands for -/
def XNm (K : Fg) (n : Str) (c : Addr) : Prop := PySem.W.nsIn K mainGlobals n = some (some (.ref c))
mutual
inductive Rep (K : Fg) (H : Hp) : V → D → Prop
  | non : Rep K H .non .non
  | bl (b : Bool) : Rep K H (.bl b) (.bl b)
  | int (i : Int) : Rep K H (.int i) (.int i)
  | str (x : Str) : Rep K H (.str x) (.str x)
  | cls (C : Addr) : Rep K H (.ref C) (.cls C)
  | xcl {c : Addr} {n : Str} : XNm K n c → Rep K H (.int 0) (.xcl (.ref c) n)
  | lst {a : Addr} {vs : List V} {ds : List D} : H a = some (.lst vs) → Reps K H vs ds → Rep K H (.ref a) (.lst ds)
  | scr {a : Addr} {vs : List V} {ds : List D} : SqL K H a vs → Reps K H vs ds → Rep K H (.ref a) (.scr ds)
  | tup {a : Addr} {vs : List V} {ds : List D} : H a = some (.tup vs) → Reps K H vs ds → Rep K H (.ref a) (.tup ds)
  | dic {a : Addr} {kvs : List (Key × V)} {dks : List (Key × D)} : H a = some (.dK kvs) → RepK K H kvs dks → Rep K H (.ref a) (.dic dks)
  | dit {a : Addr} {kvs : List (List Key × V)} {dks : List (List Key × D)} : H a = some (.dT kvs) → RepT K H kvs dks → Rep K H (.ref a) (.dit dks)
  | dkl {a : Addr} {o : Obj} {kvs : List (Key × V)} {dks : List (Key × D)} : H a = some (.frz o (.dK kvs)) → RepK K H kvs dks → Rep K H (.ref a) (.dkl dks)
  | dtl {a : Addr} {o : Obj} {kvs : List (List Key × V)} {dks : List (List Key × D)} : H a = some (.frz o (.dT kvs)) → RepT K H kvs dks → Rep K H (.ref a) (.dtl dks)
  | pnK {a : Addr} {o : Obj} {kvs : List (Key × V)} : H a = some (.frz o (.dK kvs)) → Rep K H (.ref a) (.pnK o kvs)
  | pnT {a : Addr} {o : Obj} {kvs : List (List Key × V)} : H a = some (.frz o (.dT kvs)) → Rep K H (.ref a) (.pnT o kvs)
  | obj {a C dx : Addr} {fs : List (Str × V)} {ns : List Str} {ds : List D} : H a = some (.ins C dx fs) → fs.map (·.1) = ns → Reps K H (fs.map (·.2)) ds → Rep K H (.ref a) (.obj C ns ds)
inductive Reps (K : Fg) (H : Hp) : List V → List D → Prop
  | nil : Reps K H [] []
  | cons {v : V} {vs : List V} {d : D} {ds : List D} : Rep K H v d → Reps K H vs ds → Reps K H (v :: vs) (d :: ds)
inductive RepK (K : Fg) (H : Hp) : List (Key × V) → List (Key × D) → Prop
  | nil : RepK K H [] []
  | cons {k : Key} {v : V} {d : D} {vs : List (Key × V)} {ds : List (Key × D)} : Rep K H v d → RepK K H vs ds → RepK K H ((k, v) :: vs) ((k, d) :: ds)
inductive RepT (K : Fg) (H : Hp) : List (List Key × V) → List (List Key × D) → Prop
  | nil : RepT K H [] []
  | cons {k : List Key} {v : V} {d : D} {vs : List (List Key × V)} {ds : List (List Key × D)} : Rep K H v d → RepT K H vs ds → RepT K H ((k, v) :: vs) ((k, d) :: ds)
end
section
variable {K : Fg} {H H' : Hp}
mutual
theorem Rep.mono (e : Same H H') : ∀ {v : V} {d : D}, Rep K H v d → Rep K H' v d
  | _, _, .non => .non
  | _, _, .bl b => .bl b
  | _, _, .int i => .int i
  | _, _, .str x => .str x
  | _, _, .cls C => .cls C
  | _, _, .xcl h => .xcl h
  | _, _, .lst h r => .lst (e _ _ h) (Reps.mono e r)
  | _, _, .scr h r => .scr (L2.Same.seq e h) (Reps.mono e r)
  | _, _, .tup h r => .tup (e _ _ h) (Reps.mono e r)
  | _, _, .dic h r => .dic (e _ _ h) (RepK.mono e r)
  | _, _, .dit h r => .dit (e _ _ h) (RepT.mono e r)
  | _, _, .dkl h r => .dkl (e _ _ h) (RepK.mono e r)
  | _, _, .dtl h r => .dtl (e _ _ h) (RepT.mono e r)
  | _, _, .pnK h => .pnK (e _ _ h)
  | _, _, .pnT h => .pnT (e _ _ h)
  | _, _, .obj h n r => .obj (e _ _ h) n (Reps.mono e r)
theorem Reps.mono (e : Same H H') : ∀ {vs : List V} {ds : List D}, Reps K H vs ds → Reps K H' vs ds
  | _, _, .nil => .nil
  | _, _, .cons h r => .cons (Rep.mono e h) (Reps.mono e r)
theorem RepK.mono (e : Same H H') : ∀ {vs : List (Key × V)} {ds : List (Key × D)}, RepK K H vs ds → RepK K H' vs ds
  | _, _, .nil => .nil
  | _, _, .cons h r => .cons (Rep.mono e h) (RepK.mono e r)
theorem RepT.mono (e : Same H H') : ∀ {vs : List (List Key × V)} {ds : List (List Key × D)}, RepT K H vs ds → RepT K H' vs ds
  | _, _, .nil => .nil
  | _, _, .cons h r => .cons (Rep.mono e h) (RepT.mono e r)
end
theorem Reps.length : ∀ {vs : List V} {ds : List D}, Reps K H vs ds → vs.length = ds.length
  | _, _, .nil => rfl
  | _, _, .cons _ r => by rw [List.length_cons, List.length_cons, Reps.length r]
theorem Reps.get : ∀ {vs : List V} {ds : List D} {i : Nat} {d : D}, Reps K H vs ds → ds[i]? = some d → ∃ v, vs[i]? = some v ∧ Rep K H v d
  | _, _, _, _, .nil, e => by simp at e
  | _, _, 0, _, .cons h _, e => by simp at e; subst e; exact ⟨_, rfl, h⟩
  | _, _, i + 1, d, .cons _ r, e => by
    obtain ⟨v, h1, h2⟩ := Reps.get (i := i) (d := d) r (by simpa using e)
    exact ⟨v, by simpa using h1, h2⟩
theorem Reps.getV : ∀ {vs : List V} {ds : List D} {i : Nat} {v : V}, Reps K H vs ds → vs[i]? = some v → ∃ d, ds[i]? = some d ∧ Rep K H v d
  | _, _, _, _, .nil, e => by simp at e
  | _, _, 0, _, .cons h _, e => by simp at e; subst e; exact ⟨_, rfl, h⟩
  | _, _, i + 1, d, .cons _ r, e => by
    obtain ⟨v, h1, h2⟩ := Reps.getV (i := i) (v := d) r (by simpa using e)
    exact ⟨v, by simpa using h1, h2⟩
theorem Reps.append : ∀ {vs ws : List V} {ds es : List D}, Reps K H vs ds → Reps K H ws es → Reps K H (vs ++ ws) (ds ++ es)
  | _, _, _, _, .nil, s => s
  | _, _, _, _, .cons h r, s => .cons h (Reps.append r s)
theorem Reps.take : ∀ {vs : List V} {ds : List D} (n : Nat), Reps K H vs ds → Reps K H (vs.take n) (ds.take n)
  | _, _, 0, _ => .nil
  | _, _, _ + 1, .nil => .nil
  | _, _, n + 1, .cons h r => .cons h (Reps.take n r)
theorem Reps.drop : ∀ {vs : List V} {ds : List D} (n : Nat), Reps K H vs ds → Reps K H (vs.drop n) (ds.drop n)
  | _, _, 0, r => r
  | _, _, _ + 1, .nil => .nil
  | _, _, n + 1, .cons _ r => Reps.drop n r
theorem Reps.set {v : V} {d : D} (h : Rep K H v d) : ∀ {vs : List V} {ds : List D} (n : Nat), Reps K H vs ds → Reps K H (vs.set n v) (ds.set n d)
  | _, _, _, .nil => .nil
  | _, _, 0, .cons _ r => .cons h r
  | _, _, n + 1, .cons g r => .cons g (Reps.set h n r)
theorem Reps.reverse : ∀ {vs : List V} {ds : List D}, Reps K H vs ds → Reps K H vs.reverse ds.reverse
  | _, _, .nil => .nil
  | _, _, .cons h r => by rw [List.reverse_cons, List.reverse_cons]; exact Reps.append (Reps.reverse r) (.cons h .nil)
theorem Reps.dropLast : ∀ {vs : List V} {ds : List D}, Reps K H vs ds → Reps K H vs.dropLast ds.dropLast
  | _, _, .nil => .nil
  | _, _, .cons _ .nil => .nil
  | _, _, .cons h (.cons g r) => .cons h (Reps.dropLast (.cons g r))
theorem Reps.eraseIdx : ∀ {vs : List V} {ds : List D} (i : Nat), Reps K H vs ds → Reps K H (vs.eraseIdx i) (ds.eraseIdx i)
  | _, _, _, .nil => .nil
  | _, _, 0, .cons _ r => r
  | _, _, i + 1, .cons h r => .cons h (Reps.eraseIdx i r)
theorem Reps.rep {vs : List V} {ds : List D} (h : Reps K H vs ds) : ∀ k : Nat, Reps K H (List.replicate k vs).flatten (List.replicate k ds).flatten
  | 0 => .nil
  | k + 1 => by
    rw [List.replicate_succ, List.replicate_succ, List.flatten_cons, List.flatten_cons]
    exact Reps.append h (Reps.rep h k)
theorem Reps.ints : ∀ {ns : List Int} {vs : List V}, Reps K H vs (ns.map D.int) → vs = ns.map V.int
  | [], _, .nil => rfl
  | n :: ns, _, .cons h r => by
    cases h
    rw [Reps.ints r]; rfl
theorem Reps.of_ints : ∀ (ns : List Int), Reps K H (ns.map V.int) (ns.map D.int)
  | [] => .nil
  | n :: ns => .cons (.int n) (Reps.of_ints ns)
theorem Reps.bls : ∀ {ns : List Bool} {vs : List V}, Reps K H vs (ns.map D.bl) → vs = ns.map V.bl
  | [], _, .nil => rfl
  | n :: ns, _, .cons h r => by
    cases h
    rw [Reps.bls r]; rfl
end
/-- what stands twice among the names: such an object changes inside -/
def dupN (ns : List Str) : Bool := !decide ns.Nodup
def rootO : HO → Bool
  | .ins _ _ fs => dupN (fs.map (·.1))
  | _ => false
/-- the entries whose names have come before -/
def dupEs : List Str → List (Str × V) → List (Str × V)
  | _, [] => []
  | seen, p :: r => if p.1 ∈ seen then p :: dupEs seen r else dupEs (p.1 :: seen) r
def refV : V → Option Addr
  | .ref a => some a
  | _ => none
/-- the cells that are an object's alone -/
def privs : HO → List Addr
  | .ins _ _ fs => (dupEs [] fs).filterMap fun p => refV p.2
  | _ => []
theorem dupEs_none : ∀ {fs : List (Str × V)} {seen : List Str}, (fs.map (·.1)).Nodup → (∀ p ∈ fs, p.1 ∉ seen) → dupEs seen fs = []
  | [], _, _, _ => rfl
  | p :: r, seen, h, hs => by
    obtain ⟨h1, h2⟩ := List.nodup_cons.mp (show (p.1 :: r.map (·.1)).Nodup from h)
    rw [dupEs, if_neg (hs p List.mem_cons_self)]
    refine dupEs_none h2 fun q hq z => ?_
    rcases List.mem_cons.mp z with z | z
    · exact h1 (z ▸ List.mem_map.mpr ⟨q, hq, rfl⟩)
    · exact hs q (List.mem_cons_of_mem _ hq) z
theorem privs_none {o : HO} (h : rootO o = false) : privs o = [] := by
  cases o with
  | ins C dx fs =>
    have h1 : (fs.map (·.1)).Nodup := by
      have h : dupN (fs.map (·.1)) = false := h
      unfold dupN at h
      exact of_decide_eq_true (by simpa using h)
    show (dupEs [] fs).filterMap _ = []
    rw [dupEs_none h1 fun _ _ z => by cases z]; rfl
  | _ => rfl
/-- objects that change inside, and the cells that are theirs alone -/
def Pv (H : Hp) (a : Addr) : Prop := (∃ o, H a = some o ∧ rootO o = true) ∨ ∃ b o, H b = some o ∧ a ∈ privs o
theorem Pv_upd {H : Hp} {a p : Addr} {o : HO} (ho : rootO o = false) (h : Pv (upd H p o) a) : Pv H a := by
  rcases h with ⟨u, h1, h2⟩ | ⟨b, u, h1, h2⟩
  · by_cases e : a = p
    · rw [e, upd_same] at h1; cases h1
      rw [ho] at h2; cases h2
    · rw [upd_ne e] at h1; exact .inl ⟨u, h1, h2⟩
  · by_cases e : b = p
    · rw [e, upd_same] at h1; cases h1
      rw [privs_none ho] at h2; cases h2
    · rw [upd_ne e] at h1; exact .inr ⟨b, u, h1, h2⟩
theorem Pv_of_upd {H : Hp} {a p : Addr} {o : HO} (hp : ∀ u, H p = some u → rootO u = false) (h : Pv H a) : Pv (upd H p o) a := by
  rcases h with ⟨u, h1, h2⟩ | ⟨b, u, h1, h2⟩
  · have e : a ≠ p := fun e => by
      have := hp u (e ▸ h1)
      rw [this] at h2; cases h2
    exact .inl ⟨u, by rw [upd_ne e]; exact h1, h2⟩
  · have e : b ≠ p := fun e => by
      rw [privs_none (hp u (e ▸ h1))] at h2; cases h2
    exact .inr ⟨b, u, by rw [upd_ne e]; exact h1, h2⟩
open Classical in
noncomputable def hide (O : List Addr) (H : Hp) : Hp := fun a => if a ∈ O ∨ Pv H a then none else H a
section
variable {O O' : List Addr} {H H' : Hp} {a p : Addr} {o : HO}
theorem hide_in (h : a ∈ O) : hide O H a = none := if_pos (.inl h)
theorem hide_out (h : a ∉ O) (n : ¬ Pv H a) : hide O H a = H a := if_neg fun z => z.elim h n
theorem hide_some3 (h : hide O H a = some o) : a ∉ O ∧ H a = some o ∧ ¬ Pv H a := by
  unfold hide at h
  split at h
  · cases h
  · rename_i n; exact ⟨fun z => n (.inl z), h, fun z => n (.inr z)⟩
theorem hide_some (h : hide O H a = some o) : a ∉ O ∧ H a = some o := ⟨(hide_some3 h).1, (hide_some3 h).2.1⟩
theorem hide_same : Same (hide O H) H := fun _ _ h => (hide_some h).2
theorem hide_sub (h : ∀ a, a ∈ O → a ∈ O') : Same (hide O' H) (hide O H) := fun b u e => by
  obtain ⟨n, e, v⟩ := hide_some3 e
  rw [hide_out (fun z => n (h b z)) v]; exact e
theorem hide_cons_sub : Same (hide (p :: O) H) (hide O H) := hide_sub fun _ h => List.mem_cons_of_mem _ h
theorem hide_new (h : H p = none) (ho : rootO o = false) : Same (hide O H) (hide O (upd H p o)) := fun b u e => by
  obtain ⟨n, e, v⟩ := hide_some3 e
  rw [hide_out n fun z => v (Pv_upd ho z), upd_ne (ne_of_none e h)]; exact e
theorem hide_newO (h : H p = none) (ho : rootO o = false) : Same (hide O H) (hide (p :: O) (upd H p o)) := fun b u e => by
  obtain ⟨n, e, v⟩ := hide_some3 e
  have hb : b ≠ p := ne_of_none e h
  rw [hide_out (fun z => (List.mem_cons.mp z).elim hb n) fun z => v (Pv_upd ho z), upd_ne hb]; exact e
theorem hide_mut (h : p ∈ O) (hp : ∀ u, H p = some u → rootO u = false) (ho : rootO o = false) : hide O (upd H p o) = hide O H := by
  funext b
  by_cases hb : b ∈ O
  · rw [hide_in hb, hide_in hb]
  · have e : b ≠ p := fun z => hb (z ▸ h)
    by_cases hv : Pv H b
    · unfold hide
      rw [if_pos (.inr (Pv_of_upd hp hv)), if_pos (.inr hv)]
    · rw [hide_out hb fun z => hv (Pv_upd ho z), hide_out hb hv, upd_ne e]
end
/-- the content of an owned object -/
inductive OwnOk (K : Fg) (H : Hp) : HO → D → Prop
  | lst {vs : List V} {ds : List D} : Reps K H vs ds → OwnOk K H (.lst vs) (.lst ds)
  | dic {kvs : List (Key × V)} {dks : List (Key × D)} : RepK K H kvs dks → OwnOk K H (.dK kvs) (.dic dks)
  | dit {kvs : List (List Key × V)} {dks : List (List Key × D)} : RepT K H kvs dks → OwnOk K H (.dT kvs) (.dit dks)
  | obj {C dx : Addr} {fs : List (Str × V)} {ns : List Str} {ds : List D} : fs.map (·.1) = ns → dupN ns = false → Reps K H (fs.map (·.2)) ds → OwnOk K H (.ins C dx fs) (.obj C ns ds)
theorem OwnOk.mono {K : Fg} {H H' : Hp} {o : HO} {d : D} (e : Same H H') : OwnOk K H o d → OwnOk K H' o d
  | .lst r => .lst (Reps.mono e r)
  | .dic r => .dic (RepK.mono e r)
  | .dit r => .dit (RepT.mono e r)
  | .obj n q r => .obj n q (Reps.mono e r)
theorem OwnOk.rep {K : Fg} {H : Hp} {o : HO} {d : D} {a : Addr} (h : H a = some o) : OwnOk K H o d → Rep K H (.ref a) d
  | .lst r => .lst h r
  | .dic r => .dic h r
  | .dit r => .dit h r
  | .obj n _ r => .obj h n r
/-- things that are pinned: a value, own cells with what stands in them, values that are shared -/
structure Pin where
  v : V
  cs : List (Addr × HO)
  ts : List (V × D)
/-- what a variable holds: nothing that is known; a datum that is shared (and so never changes); an own object; a parameter's object that may change; a parameter's value that is only looked at -/
inductive Sl where
  | no
  | sh (d : D)
  | ow (d : D)
  | io (d : D)
  | bo (d : D)
  | pn (b : Bool) (P : Pin)
  | st (S : Stor)
abbrev Env := List Sl
/-- what a pinned cell may hold -/
def Pk : HO → Prop
  | .lst _ => True
  | .dK _ => True
  | .dT _ => True
  | .ins _ _ fs => dupN (fs.map (·.1)) = false
  | _ => False
/-- what an own object may be: no tuple, none that changes inside -/
def Tk : Option HO → Prop
  | none => False
  | some (.tup _) => False
  | some o => rootO o = false
theorem Tk.ne {o : Option HO} (h : Tk o) : o ≠ none := fun z => by rw [z] at h; exact h
theorem Tk.nr {o : HO} (h : Tk (some o)) : rootO o = false := by
  cases o with
  | tup xs => exact h.elim
  | _ => exact h
theorem OwnOk.nr {K : Fg} {H : Hp} {o : HO} {d : D} (h : OwnOk K H o d) : rootO o = false := by
  cases h with
  | obj n q r => subst n; exact q
  | _ => rfl
theorem OwnOk.tk {K : Fg} {H : Hp} {o : HO} {d : D} (h : OwnOk K H o d) : Tk (some o) := by
  cases h with
  | obj n q r => subst n; exact q
  | _ => rfl
/-- what a private cell may be -/
def CK : HO → Prop
  | .lst _ => True
  | .dK _ => True
  | .dT _ => True
  | _ => False
/-- the private cells are there, apart from the owned ones; what is private now was so at first, or is new -/
structure PvOk (H0 : Hp) (O : List Addr) (H : Hp) : Prop where
  ex : ∀ b o l, H b = some o → l ∈ privs o → l ∉ O ∧ ∃ u, H l = some u ∧ CK u
  nw : ∀ a, Pv H a → H0 a = none ∨ Pv H0 a
  h0 : ∀ a, Pv H0 a → H0 a ≠ none
theorem PvOk.sub {H0 H : Hp} {O O' : List Addr} (h : PvOk H0 O H) (s : ∀ a ∈ O', a ∈ O) : PvOk H0 O' H := ⟨fun b o l h1 h2 => ⟨fun z => (h.ex b o l h1 h2).1 (s l z), (h.ex b o l h1 h2).2⟩, h.nw, h.h0⟩
theorem PvOk.npv {H0 H : Hp} {O : List Addr} {a : Addr} (h : PvOk H0 O H) (al : ∀ a ∈ O, Tk (H a)) (ha : a ∈ O) : ¬ Pv H a := fun z => by
  rcases z with ⟨o, h1, h2⟩ | ⟨b, o, h1, h2⟩
  · have := al a ha
    rw [h1] at this
    rw [this.nr] at h2; cases h2
  · exact (h.ex b o a h1 h2).1 ha
theorem PvOk.tup {H0 H : Hp} {O : List Addr} {a : Addr} {vs : List V} (h : PvOk H0 O H) (e : H a = some (.tup vs)) : ¬ Pv H a := fun z => by
  rcases z with ⟨o, h1, h2⟩ | ⟨b, o, h1, h2⟩
  · rw [e] at h1; cases h1; cases h2
  · obtain ⟨_, u, h3, h4⟩ := h.ex b o a h1 h2
    rw [e] at h3; cases h3; exact h4
theorem PvOk.gone {H0 H : Hp} {O : List Addr} {a : Addr} (h : PvOk H0 O H) (e : H a = none) : ¬ Pv H a := fun z => by
  rcases z with ⟨o, h1, h2⟩ | ⟨b, o, h1, h2⟩
  · rw [e] at h1; cases h1
  · obtain ⟨_, u, h3, _⟩ := h.ex b o a h1 h2
    rw [e] at h3; cases h3
/-- an object that is not one of those changes, or is laid -/
theorem PvOk.upd {H0 H : Hp} {O : List Addr} {p : Addr} {o : HO} (h : PvOk H0 O H) (hp : H p = none ∨ p ∈ O) (ho : rootO o = false) : PvOk H0 O (upd H p o) := by
  refine ⟨fun b u l h1 h2 => ?_, fun a ha => h.nw a (Pv_upd ho ha), h.h0⟩
  by_cases e : b = p
  · rw [e, upd_same] at h1; cases h1
    rw [privs_none ho] at h2; cases h2
  · rw [upd_ne e] at h1
    obtain ⟨h3, u', h4, h5⟩ := h.ex b u l h1 h2
    have hl : l ≠ p := fun z => hp.elim (fun q => by rw [z, q] at h4; cases h4) fun q => h3 (z ▸ q)
    exact ⟨h3, u', by rw [upd_ne hl]; exact h4, h5⟩
theorem PvOk.updO {H0 H : Hp} {O : List Addr} {p : Addr} {o : HO} (h : PvOk H0 O H) (hp : H p = none) (ho : rootO o = false) : PvOk H0 (p :: O) (L2.upd H p o) := by
  refine ⟨fun b u l h1 h2 => ?_, (h.upd (.inl hp) ho).nw, h.h0⟩
  obtain ⟨h3, u', h4, h5⟩ := (h.upd (.inl hp) ho).ex b u l h1 h2
  refine ⟨fun z => ?_, u', h4, h5⟩
  rcases List.mem_cons.mp z with z | z
  · by_cases e : b = p
    · rw [e] at h1
      have h1 : L2.upd H p o p = some u := h1
      rw [upd_same] at h1; cases h1
      rw [privs_none ho] at h2; cases h2
    · have h1 : L2.upd H p o b = some u := h1
      rw [upd_ne e] at h1
      obtain ⟨_, w, h6, _⟩ := h.ex b u l h1 h2
      rw [z, hp] at h6; cases h6
  · exact h3 z
theorem PvOk.here {H0 H : Hp} {O : List Addr} (h : PvOk H0 O H) : PvOk H O H := ⟨h.ex, fun _ z => .inr z, fun _ z e => h.gone e z⟩
/-- what stands for a cell of the store -/
def CellOk (K : Fg) (O : List Addr) (H : Hp) (a : Addr) (d : D) : Prop :=
  (∃ o, H a = some o ∧ OwnOk K (hide O H) o d ∧ Pv H a) ∨
  ∃ C dx fs ex ns ds, d = .obj C ns ds ∧ H a = some (.ins C dx (fs ++ ex)) ∧ fs.map (·.1) = ns ∧ ns.Nodup ∧ Reps K (hide O H) (fs.map (·.2)) ds ∧ ex ≠ [] ∧ (ex.map (·.1)).Nodup ∧ ∀ p ∈ ex, p ∈ fs
/-- the store as it is said to be -/
def StO (K : Fg) (O : List Addr) (H : Hp) (S : Stor) : Prop := ∀ a d, S.lookup a = some d → CellOk K O H a d
theorem Pv.keep {H H' : Hp} (k : ∀ l o, Pv H l → H l = some o → H' l = some o) {a : Addr} (h : Pv H a) : Pv H' a := by
  rcases h with ⟨o, h1, h2⟩ | ⟨b, o, h1, h2⟩
  · exact .inl ⟨o, k a o (.inl ⟨o, h1, h2⟩) h1, h2⟩
  · have hr : rootO o = true := by
      cases e : rootO o with
      | true => rfl
      | false => rw [privs_none e] at h2; cases h2
    exact .inr ⟨b, o, k b o (.inl ⟨o, h1, hr⟩) h1, h2⟩
theorem rootEx {C dx : Addr} {fs ex : List (Str × V)} (hx : ex ≠ []) (hs : ∀ p ∈ ex, p ∈ fs) : rootO (.ins C dx (fs ++ ex)) = true := by
  show (!decide ((fs ++ ex).map (·.1)).Nodup) = true
  cases ex with
  | nil => exact absurd rfl hx
  | cons p r =>
    have : ¬ ((fs ++ p :: r).map (·.1)).Nodup := fun z => by
      rw [List.map_append, List.nodup_append] at z
      exact z.2.2 p.1 (List.mem_map.mpr ⟨p, hs p List.mem_cons_self, rfl⟩) p.1 List.mem_cons_self rfl
    rw [decide_eq_false this]; rfl
theorem CellOk.mono {K : Fg} {O O' : List Addr} {H H' : Hp} {a : Addr} {d : D} (e : Same (hide O H) (hide O' H')) (k : ∀ l o, Pv H l → H l = some o → H' l = some o) : CellOk K O H a d → CellOk K O' H' a d := by
  rintro (⟨o, h1, h2, h3⟩ | ⟨C, dx, fs, ex, ns, ds, h1, h2, h3, h4, h5, h6, h7⟩)
  · exact .inl ⟨o, k a o h3 h1, h2.mono e, h3.keep k⟩
  · subst h3
    exact .inr ⟨C, dx, fs, ex, _, ds, h1, k a _ (.inl ⟨_, h2, rootEx h6 h7.2⟩) h2, rfl, h4, h5.mono e, h6, h7⟩
/-- what stays the same through a def's body -/
structure Ctx where
  K : Fg
  H0 : Hp
  O0 : List Addr
  M : List (Nat × Addr)
  B : List (Nat × V)
  T : List (V × D)
  U : List (Addr × HO)
  N : List Nat
  P : Addr → Prop
  G : Nat
/-- neither a parameter's that may change, nor one that may change otherwise -/
def NoM (C : Ctx) (a : Addr) : Prop := (∀ p ∈ C.M, p.2 ≠ a) ∧ ¬ C.P a
def SlOk (C : Ctx) (O : List Addr) (σ : St) (H : Hp) (i : Nat) : Sl → Prop
  | .no => True
  | .sh d => ∃ v, σ[i]? = some (some v) ∧ Rep C.K (hide O H) v d
  | .ow d => ∃ l o, σ[i]? = some (some (.ref l)) ∧ l ∈ O ∧ C.H0 l = none ∧ H l = some o ∧ OwnOk C.K (hide O H) o d
  | .io d => ∃ l o, σ[i]? = some (some (.ref l)) ∧ (i, l) ∈ C.M ∧ l ∈ O ∧ H l = some o ∧ OwnOk C.K (hide O H) o d
  | .bo d => ∃ v, σ[i]? = some (some v) ∧ (i, v) ∈ C.B ∧ (Rep C.K (hide O H) v d ∨ ∃ l o, v = .ref l ∧ C.H0 l = some o ∧ (NoM C l ∧ ¬ Pv C.H0 l) ∧ OwnOk C.K (hide O H) o d)
  | .pn b P => σ[i]? = some (some P.v) ∧ (∀ c ∈ P.cs, c.1 ∈ O ∧ H c.1 = some c.2 ∧ (C.H0 c.1 = none ∨ (b = true ∧ (i, c.1) ∈ C.M)) ∧ Pk c.2) ∧ ∀ t ∈ P.ts, Rep C.K (hide O H) t.1 t.2
  | .st S => i = C.G ∧ (∀ a, Pv C.H0 a → C.P a) ∧ StO C.K O H S
/-- slot i may be changed in place, and stands at a -/
def MutAt (Γ : Env) (σ : St) (i : Nat) (a : Addr) : Prop := ((∃ d, Γ[i]? = some (.ow d) ∨ Γ[i]? = some (.io d)) ∧ σ[i]? = some (some (.ref a))) ∨ ∃ b P o, Γ[i]? = some (.pn b P) ∧ (a, o) ∈ P.cs
structure RelO (C : Ctx) (Γ : Env) (O : List Addr) (σ : St) (H : Hp) : Prop where
  sl : ∀ i s, Γ[i]? = some s → SlOk C O σ H i s
  ds : ∀ i j a, i ≠ j → MutAt Γ σ i a → MutAt Γ σ j a → False
  fr : ∀ a o, C.H0 a = some o → NoM C a → H a = some o
  pv : PvOk C.H0 O H
  pc : ∀ a, C.P a → C.H0 a ≠ none ∧ H a ≠ none
  mm : ∀ p ∈ C.M, (σ[p.1]? = some (some (.ref p.2)) ∧ ∃ d, Γ[p.1]? = some (.io d)) ∨ (p.1 ∈ C.N ∧ p.2 ∈ C.O0 ∧ ∃ P, Γ[p.1]? = some (.pn true P))
  bb : ∀ p ∈ C.B, σ[p.1]? = some (some p.2) ∧ ∃ d, Γ[p.1]? = some (.bo d)
  oo : ∀ a ∈ C.O0, a ∈ O
  al : ∀ a ∈ O, Tk (H a)
  ol : ∀ a ∈ O, a ∈ C.O0 ∨ C.H0 a = none
  o0 : ∀ a ∈ C.O0, C.H0 a ≠ none
  tt : ∀ p ∈ C.T, Rep C.K (hide O H) p.1 p.2
  uu : ∀ q ∈ C.U, H q.1 = some q.2 ∧ q.1 ∈ O ∧ ∀ i, ¬ MutAt Γ σ i q.1
  len : Γ.length = σ.length
section
variable {C : Ctx} {Γ : Env} {O : List Addr} {σ : St} {H H' : Hp} {i : Nat} {d : D} {p : Addr} {o : HO} {v : V}
theorem SlOk.mono {s : Sl} (e : Same (hide O H) (hide O H')) (k : ∀ l o, l ∈ O ∨ Pv H l → H l = some o → H' l = some o) : SlOk C O σ H i s → SlOk C O σ H' i s := by
  cases s with
  | no => exact fun _ => trivial
  | sh d => exact fun ⟨v, h1, h2⟩ => ⟨v, h1, h2.mono e⟩
  | ow d => exact fun ⟨l, o, h1, h2, h3, h4, h5⟩ => ⟨l, o, h1, h2, h3, k l o (.inl h2) h4, h5.mono e⟩
  | io d => exact fun ⟨l, o, h1, h2, h3, h4, h5⟩ => ⟨l, o, h1, h2, h3, k l o (.inl h3) h4, h5.mono e⟩
  | bo d =>
    intro ⟨v, h1, h2, h3⟩
    refine ⟨v, h1, h2, ?_⟩
    rcases h3 with h3 | ⟨l, o, h3, h4, h5, h6⟩
    · exact .inl (h3.mono e)
    · exact .inr ⟨l, o, h3, h4, h5, h6.mono e⟩
  | pn b P => exact fun ⟨h1, h2, h3⟩ => ⟨h1, fun c hc => ⟨(h2 c hc).1, k _ _ (.inl (h2 c hc).1) (h2 c hc).2.1, (h2 c hc).2.2⟩, fun t ht => (h3 t ht).mono e⟩
  | st S => exact fun h => ⟨h.1, h.2.1, fun a d hs => (h.2.2 a d hs).mono e fun l o hp => k l o (.inr hp)⟩
theorem RelO.notin (R : RelO C Γ O σ H) (h : H p = none) : p ∉ O := fun z => (R.al p z).ne h
theorem RelO.fresh0 (R : RelO C Γ O σ H) (h : H p = none) : C.H0 p = none := by
  cases e : C.H0 p with
  | none => rfl
  | some o =>
    by_cases hP : C.P p
    · exact absurd h (R.pc p hP).2
    by_cases hm : ∀ q ∈ C.M, q.2 ≠ p
    · rw [R.fr p o e ⟨hm, hP⟩] at h; cases h
    · exfalso
      apply hm
      intro q hq z
      rcases R.mm q hq with ⟨h1, d, h2⟩ | ⟨_, h2, _⟩
      · obtain ⟨l, o, h3, _, h4, h5, _⟩ := R.sl q.1 _ h2
        rw [h1] at h3
        cases h3
        rw [z, h] at h5; cases h5
      · exact (R.al _ (R.oo _ h2)).ne (by rw [z]; exact h)
theorem RelO.npv (R : RelO C Γ O σ H) {a : Addr} (h : a ∈ O) : ¬ Pv H a := R.pv.npv R.al h
theorem RelO.npvT (R : RelO C Γ O σ H) {a : Addr} {vs : List V} (h : H a = some (.tup vs)) : ¬ Pv H a := R.pv.tup h
/-- the owned ones are no tuples; no tuple is private -/
def AlT (O : List Addr) (H : Hp) : Prop := (∀ a ∈ O, Tk (H a)) ∧ ∀ t vs, H t = some (.tup vs) → ¬ Pv H t
theorem RelO.alT (R : RelO C Γ O σ H) : AlT O H := ⟨R.al, fun _ _ h => R.npvT h⟩
theorem RelO.nr (R : RelO C Γ O σ H) (h : p ∈ O) : ∀ u, H p = some u → rootO u = false := fun u e => by
  have := R.al p h
  rw [e] at this
  exact this.nr
theorem pc_upd {C : Ctx} {H : Hp} (h : ∀ a, C.P a → C.H0 a ≠ none ∧ H a ≠ none) : ∀ a, C.P a → C.H0 a ≠ none ∧ upd H p o a ≠ none := fun a h1 => ⟨(h a h1).1, by
  by_cases e : a = p
  · rw [e, upd_same]; exact fun z => by cases z
  · rw [upd_ne e]; exact (h a h1).2⟩
/-- a new object is laid -/
theorem RelO.alloc (R : RelO C Γ O σ H) (h : H p = none) (ho : rootO o = false := by rfl) : RelO C Γ O σ (upd H p o) := by
  have k : ∀ l u, l ∈ O ∨ Pv H l → H l = some u → upd H p o l = some u := fun l u _ e => by rw [upd_ne (ne_of_none e h)]; exact e
  refine ⟨fun i s e => (R.sl i s e).mono (hide_new h ho) k, R.ds, fun a u e n => ?_, R.pv.upd (.inl h) ho, pc_upd R.pc, R.mm, R.bb, R.oo, fun a ha => ?_, R.ol, R.o0, fun p hp => (R.tt p hp).mono (hide_new h ho), fun q hq => ⟨by rw [upd_ne (ne_of_none (R.uu q hq).1 h)]; exact (R.uu q hq).1, (R.uu q hq).2⟩, R.len⟩
  · have := R.fr a u e n
    rw [upd_ne (ne_of_none this h)]; exact this
  · have := R.al a ha
    rw [upd_ne fun z => this.ne (by rw [z]; exact h)]; exact this
/-- .. and owned -/
theorem RelO.allocO (R : RelO C Γ O σ H) (h : H p = none) (ht : Tk (some o) := by rfl) : RelO C Γ (p :: O) σ (upd H p o) := by
  have ho : rootO o = false := ht.nr
  have e : Same (hide O H) (hide (p :: O) (upd H p o)) := hide_newO h ho
  have k : ∀ l u, H l = some u → upd H p o l = some u := fun l u e => by rw [upd_ne (ne_of_none e h)]; exact e
  refine ⟨fun i s es => ?_, R.ds, fun a u e n => k a u (R.fr a u e n), R.pv.updO h ho, pc_upd R.pc, R.mm, R.bb, fun a ha => List.mem_cons_of_mem _ (R.oo a ha), fun a ha => ?_, fun a ha => ?_, R.o0, fun p hp => (R.tt p hp).mono e, fun q hq => ⟨k _ _ (R.uu q hq).1, List.mem_cons_of_mem _ (R.uu q hq).2.1, (R.uu q hq).2.2⟩, R.len⟩
  · have q := R.sl i s es
    cases s with
    | no => trivial
    | sh d => obtain ⟨v, h1, h2⟩ := q; exact ⟨v, h1, h2.mono e⟩
    | ow d => obtain ⟨l, u, h1, h2, h3, h4, h5⟩ := q; exact ⟨l, u, h1, List.mem_cons_of_mem _ h2, h3, k l u h4, h5.mono e⟩
    | io d => obtain ⟨l, u, h1, h2, h3, h4, h5⟩ := q; exact ⟨l, u, h1, h2, List.mem_cons_of_mem _ h3, k l u h4, h5.mono e⟩
    | bo d =>
      obtain ⟨v, h1, h2, h3⟩ := q
      refine ⟨v, h1, h2, ?_⟩
      rcases h3 with h3 | ⟨l, u, h3, h4, h5, h6⟩
      · exact .inl (h3.mono e)
      · exact .inr ⟨l, u, h3, h4, h5, h6.mono e⟩
    | pn b P => exact ⟨q.1, fun c hc => ⟨List.mem_cons_of_mem _ (q.2.1 c hc).1, k _ _ (q.2.1 c hc).2.1, (q.2.1 c hc).2.2⟩, fun t ht => (q.2.2 t ht).mono e⟩
    | st S => exact ⟨q.1, q.2.1, fun a d hs => (q.2.2 a d hs).mono e fun l o _ => k l o⟩
  · rcases List.mem_cons.mp ha with z | z
    · rw [z, upd_same]; exact ht
    · have := R.al a z
      rw [upd_ne fun z => this.ne (by rw [z]; exact h)]; exact this
  · rcases List.mem_cons.mp ha with z | z
    · exact .inr (z ▸ R.fresh0 h)
    · exact R.ol a z
/-- a slot that may be stored to -/
def Free (Γ : Env) (i : Nat) : Prop := (∀ d, Γ[i]? ≠ some (.io d)) ∧ (∀ d, Γ[i]? ≠ some (.bo d)) ∧ ∀ P, Γ[i]? ≠ some (.pn true P)
theorem get_set_same {α : Type} {l : List α} {i : Nat} {x y : α} (h : (l.set i x)[i]? = some y) : x = y := by
  rw [List.getElem?_set_self' ] at h
  cases e : l[i]? with
  | none => rw [e] at h; cases h
  | some z => rw [e] at h; exact Option.some.inj h
theorem get_set_ne {α : Type} {l : List α} {i j : Nat} {x : α} (h : i ≠ j) : (l.set i x)[j]? = l[j]? := List.getElem?_set_ne h
theorem SlOk.other {j : Nat} {s : Sl} {x : Option V} (h : i ≠ j) : SlOk C O σ H j s → SlOk C O (σ.set i x) H j s := by
  have e : (σ.set i x)[j]? = σ[j]? := get_set_ne h
  cases s with
  | no => exact id
  | sh d => unfold SlOk; rw [e]; exact id
  | ow d => unfold SlOk; rw [e]; exact id
  | io d => unfold SlOk; rw [e]; exact id
  | bo d => unfold SlOk; rw [e]; exact id
  | pn b P => unfold SlOk; rw [e]; exact id
  | st S => exact id
theorem MutAt.other {j : Nat} {s : Sl} {x : Option V} {a : Addr} (h : i ≠ j) : MutAt (Γ.set i s) (σ.set i x) j a → MutAt Γ σ j a := by
  unfold MutAt
  rw [get_set_ne h, get_set_ne h]; exact id
theorem RelO.set (R : RelO C Γ O σ H) (f : Free Γ i) {s : Sl} {x : Option V} (hs : i < σ.length → SlOk C O (σ.set i x) H i s) (hd : ∀ j a, i ≠ j → MutAt Γ σ j a → MutAt (Γ.set i s) (σ.set i x) i a → False) (hu : ∀ q ∈ C.U, ¬ MutAt (Γ.set i s) (σ.set i x) i q.1) : RelO C (Γ.set i s) O (σ.set i x) H := by
  refine ⟨fun j t e => ?_, fun j k a n h1 h2 => ?_, R.fr, R.pv, R.pc, fun p hp => ?_, fun p hp => ?_, R.oo, R.al, R.ol, R.o0, R.tt, fun q hq => ⟨(R.uu q hq).1, (R.uu q hq).2.1, fun j hj => ?_⟩, by rw [List.length_set, List.length_set]; exact R.len⟩
  · by_cases h : i = j
    · subst h
      have hl : i < σ.length := by
        have := (List.getElem?_eq_some_iff.mp e).1
        rw [List.length_set] at this
        rw [← R.len]; exact this
      have := get_set_same e
      subst this
      exact hs hl
    · rw [get_set_ne h] at e
      exact (R.sl j t e).other h
  · by_cases h : i = j
    · subst h
      exact hd k a n (h2.other n) h1
    · by_cases h' : i = k
      · subst h'
        exact hd j a h (h1.other h) h2
      · exact R.ds j k a n (h1.other h) (h2.other h')
  · rcases R.mm p hp with ⟨h1, d, h2⟩ | ⟨h0, h1, P, h2⟩
    · have ne : i ≠ p.1 := fun z => f.1 d (by rw [z]; exact h2)
      exact .inl ⟨by rw [get_set_ne ne]; exact h1, d, by rw [get_set_ne ne]; exact h2⟩
    · have ne : i ≠ p.1 := fun z => f.2.2 P (by rw [z]; exact h2)
      exact .inr ⟨h0, h1, P, by rw [get_set_ne ne]; exact h2⟩
  · obtain ⟨h1, d, h2⟩ := R.bb p hp
    have ne : i ≠ p.1 := fun z => f.2.1 d (by rw [z]; exact h2)
    exact ⟨by rw [get_set_ne ne]; exact h1, d, by rw [get_set_ne ne]; exact h2⟩
  · by_cases h : i = j
    · subst h
      exact hu q hq hj
    · exact (R.uu q hq).2.2 j (hj.other h)
theorem notMut_sh {x : Option V} {a : Addr} : ¬ MutAt (Γ.set i (.sh d)) (σ.set i x) i a := fun h => by
  rcases h with ⟨⟨d', h | h⟩, _⟩ | ⟨b, P, o, h, _⟩ <;> cases get_set_same h
theorem notMut_no {x : Option V} {a : Addr} : ¬ MutAt (Γ.set i .no) (σ.set i x) i a := fun h => by
  rcases h with ⟨⟨d', h | h⟩, _⟩ | ⟨b, P, o, h, _⟩ <;> cases get_set_same h
theorem MutAt.ow2 {τ : St} {a : Addr} (h : MutAt (Γ.set i (.ow d)) τ i a) : τ[i]? = some (some (.ref a)) := by
  rcases h with ⟨_, h⟩ | ⟨b, P, o, h, _⟩
  · exact h
  · cases get_set_same h
theorem RelO.setSh (R : RelO C Γ O σ H) (f : Free Γ i) (r : Rep C.K (hide O H) v d) : RelO C (Γ.set i (.sh d)) O (σ.set i (some v)) H :=
  R.set f (fun hl => ⟨v, List.getElem?_set_self hl, r⟩) (fun j a _ _ h => notMut_sh h) fun _ _ => notMut_sh
theorem RelO.setNo (R : RelO C Γ O σ H) (f : Free Γ i) (x : Option V) : RelO C (Γ.set i .no) O (σ.set i x) H :=
  R.set f (fun _ => trivial) (fun j a _ _ h => notMut_no h) fun _ _ => notMut_no
theorem RelO.mutIn (R : RelO C Γ O σ H) (h : MutAt Γ σ i p) : p ∈ O := by
  rcases h with ⟨⟨d, h | h⟩, h2⟩ | ⟨b, P, o, h, h2⟩
  · obtain ⟨l, o, h3, h4, _⟩ := R.sl i _ h
    rw [h2] at h3; cases h3; exact h4
  · obtain ⟨l, o, h3, _, h4, _⟩ := R.sl i _ h
    rw [h2] at h3; cases h3; exact h4
  · exact ((R.sl i _ h).2.1 _ h2).1
theorem RelO.setOw (R : RelO C Γ (p :: O) σ H) (f : Free Γ i) (hp : ∀ j, ¬ MutAt Γ σ j p) (hu : ∀ q ∈ C.U, q.1 ≠ p) (h0 : C.H0 p = none) (ho : H p = some o) (r : OwnOk C.K (hide (p :: O) H) o d) : RelO C (Γ.set i (.ow d)) (p :: O) (σ.set i (some (.ref p))) H :=
  R.set f (fun hl => ⟨p, o, List.getElem?_set_self hl, List.mem_cons_self, h0, ho, r⟩) (fun j a n h1 h => by
    rcases h with ⟨_, h⟩ | ⟨b, P, o, h, _⟩
    · have := get_set_same h
      cases this
      exact hp j h1
    · cases get_set_same h) fun q hq h => by
    rcases h with ⟨_, h⟩ | ⟨b, P, o, h, _⟩
    · have e := get_set_same h
      have e2 := Option.some.inj e
      exact hu q hq (V.ref.inj e2).symm
    · cases get_set_same h
/-- an own object changes -/
theorem RelO.mut (R : RelO C Γ O σ H) {s s' : Sl} (hi : Γ[i]? = some s) (hs : (s = .ow d ∧ ∃ d', s' = .ow d') ∨ (s = .io d ∧ ∃ d', s' = .io d')) (hp : σ[i]? = some (some (.ref p)))
    (h' : ∀ d', s' = .ow d' ∨ s' = .io d' → OwnOk C.K (hide O H) o d') : RelO C (Γ.set i s') O σ (upd H p o) := by
  have hm : MutAt Γ σ i p := .inl ⟨⟨d, by rcases hs with ⟨e, _⟩ | ⟨e, _⟩ <;> subst e <;> simp [hi]⟩, hp⟩
  have hO : p ∈ O := R.mutIn hm
  have hnr : rootO o = false := by
    rcases hs with ⟨_, d', e⟩ | ⟨_, d', e⟩
    · exact (h' d' (.inl e)).nr
    · exact (h' d' (.inr e)).nr
  have eH : hide O (upd H p o) = hide O H := hide_mut hO (R.nr hO) hnr
  have hil : i < Γ.length := (List.getElem?_eq_some_iff.mp hi).1
  have kind : ∀ j a, MutAt (Γ.set i s') σ j a → MutAt Γ σ j a := fun j a h => by
    by_cases e : i = j
    · subst e
      rcases h with ⟨_, h2⟩ | ⟨b, P, o, h, _⟩
      · exact .inl ⟨⟨d, by rcases hs with ⟨e, _⟩ | ⟨e, _⟩ <;> subst e <;> simp [hi]⟩, h2⟩
      · have := get_set_same h
        rcases hs with ⟨_, d', e⟩ | ⟨_, d', e⟩ <;> subst e <;> cases this
    · unfold MutAt at h ⊢
      rwa [get_set_ne e] at h
  have notM : ∀ a u, C.H0 a = some u → NoM C a → a ≠ p := fun a u e n z => by
    subst z
    rcases hs with ⟨e1, _⟩ | ⟨e1, _⟩
    · subst e1
      obtain ⟨l, o2, h3, _, h4, _⟩ := R.sl i _ hi
      rw [hp] at h3; cases h3
      rw [e] at h4; cases h4
    · subst e1
      obtain ⟨l, o2, h3, h4, _⟩ := R.sl i _ hi
      rw [hp] at h3; cases h3
      exact n.1 _ h4 rfl
  refine ⟨fun j t e => ?_, fun j k a n h1 h2 => R.ds j k a n (kind _ _ h1) (kind _ _ h2), fun a u e n => by rw [upd_ne (notM a u e n)]; exact R.fr a u e n, R.pv.upd (.inr hO) hnr, pc_upd R.pc, fun q hq => ?_, fun q hq => ?_, R.oo, fun a ha => ?_, R.ol, R.o0, fun q hq => by rw [eH]; exact R.tt q hq, fun q hq => ⟨by rw [upd_ne fun z => (R.uu q hq).2.2 i (by rw [z]; exact hm)]; exact (R.uu q hq).1, (R.uu q hq).2.1, fun j hj => (R.uu q hq).2.2 j (kind _ _ hj)⟩, by rw [List.length_set]; exact R.len⟩
  · by_cases h : i = j
    · subst h
      have := get_set_same e
      subst this
      rcases hs with ⟨e1, d', e2⟩ | ⟨e1, d', e2⟩
      · subst e1 e2
        obtain ⟨l, o2, h3, h4, h5, h6, _⟩ := R.sl i _ hi
        rw [hp] at h3; cases h3
        exact ⟨p, o, hp, h4, h5, upd_same, by rw [eH]; exact h' d' (.inl rfl)⟩
      · subst e1 e2
        obtain ⟨l, o2, h3, h4, h5, h6, _⟩ := R.sl i _ hi
        rw [hp] at h3; cases h3
        exact ⟨p, o, hp, h4, h5, upd_same, by rw [eH]; exact h' d' (.inr rfl)⟩
    · rw [get_set_ne h] at e
      have q := R.sl j t e
      have dis : ∀ l, MutAt Γ σ j l → l ≠ p := fun l hl z => R.ds i j p h hm (z ▸ hl)
      cases t with
      | no => trivial
      | sh d2 =>
        obtain ⟨v, h1, h2⟩ := q
        exact ⟨v, h1, by rw [eH]; exact h2⟩
      | ow d2 =>
        obtain ⟨l, u, h1, h2, h3, h4, h5⟩ := q
        exact ⟨l, u, h1, h2, h3, by rw [upd_ne (dis l (.inl ⟨⟨d2, .inl e⟩, h1⟩))]; exact h4, by rw [eH]; exact h5⟩
      | io d2 =>
        obtain ⟨l, u, h1, h2, h3, h4, h5⟩ := q
        exact ⟨l, u, h1, h2, h3, by rw [upd_ne (dis l (.inl ⟨⟨d2, .inr e⟩, h1⟩))]; exact h4, by rw [eH]; exact h5⟩
      | bo d2 =>
        obtain ⟨v, h1, h2, h3⟩ := q
        refine ⟨v, h1, h2, ?_⟩
        rw [eH]
        exact h3
      | pn b P =>
        refine ⟨q.1, fun c hc => ⟨(q.2.1 c hc).1, ?_, (q.2.1 c hc).2.2⟩, by rw [eH]; exact q.2.2⟩
        rw [upd_ne (dis c.1 (.inr ⟨b, P, c.2, e, hc⟩))]
        exact (q.2.1 c hc).2.1
      | st S =>
        refine ⟨q.1, q.2.1, fun a d hs => (q.2.2 a d hs).mono (fun b u hb => by rw [eH]; exact hb) fun l u hp hl => ?_⟩
        rw [upd_ne fun z : l = p => R.npv hO (by rw [← z]; exact hp)]; exact hl
  · rcases R.mm q hq with ⟨h1, d2, h2⟩ | ⟨h0, h1, P, h2⟩
    · refine .inl ⟨h1, ?_⟩
      by_cases h : i = q.1
      · rw [← h] at h2
        rw [hi] at h2
        cases h2
        rcases hs with ⟨e1, _⟩ | ⟨e1, d', e2⟩
        · cases e1
        · exact ⟨d', by rw [← h, e2]; exact List.getElem?_set_self hil⟩
      · exact ⟨d2, by rw [get_set_ne h]; exact h2⟩
    · have h : i ≠ q.1 := fun z => by
        rw [← z, hi] at h2
        rcases hs with ⟨e1, _⟩ | ⟨e1, _⟩ <;> subst e1 <;> cases h2
      exact .inr ⟨h0, h1, P, by rw [get_set_ne h]; exact h2⟩
  · obtain ⟨h1, d2, h2⟩ := R.bb q hq
    refine ⟨h1, d2, ?_⟩
    have h : i ≠ q.1 := fun z => by
      rw [← z, hi] at h2
      rcases hs with ⟨e1, _⟩ | ⟨e1, _⟩ <;> subst e1 <;> cases h2
    rw [get_set_ne h]; exact h2
  · by_cases z : a = p
    · rw [z, upd_same]
      rcases hs with ⟨_, d', e⟩ | ⟨_, d', e⟩
      · exact (h' d' (.inl e)).tk
      · exact (h' d' (.inr e)).tk
    · rw [upd_ne z]; exact R.al a ha
end
/-! ### results -/
/-- what an expression gives: a shared datum; a new object that nobody else holds; the object of slot i -/
inductive Res where
  | val (d : D)
  | fr (d : D)
  | pl (i : Nat)
  | np (a : D) (ds : List D)
  | hd (a : Addr)
/-- the content of a place -/
def cont : Option Sl → Option D
  | some (.ow d) => some d
  | some (.io d) => some d
  | some (.bo d) => some d
  | _ => none
/-- the cell of the store -/
def stGet : Env → Addr → Option D
  | [], _ => none
  | .st S :: _, a => match S.lookup a with
    | some (.obj _ _ _) => none
    | r => r
  | _ :: Γ, a => stGet Γ a
def rd (Γ : Env) : Res → Option D
  | .val d => some d
  | .fr d => some d
  | .pl i => cont Γ[i]?
  | .np a ds => some (.tup [a, .lst ds])
  | .hd a => stGet Γ a
/-- a shared datum -/
def dat : Res → Option D
  | .val d => some d
  | .fr d => some d
  | .pl _ => none
  | .np a ds => some (.tup [a, .lst ds])
  | .hd _ => none
def FrOk (C : Ctx) (Γ : Env) (O : List Addr) (σ : St) (H : Hp) (v : V) (d : D) : Prop :=
  ∃ p o, v = .ref p ∧ H p = some o ∧ p ∉ O ∧ C.H0 p = none ∧ OwnOk C.K (hide (p :: O) H) o d ∧ RelO C Γ (p :: O) σ H
/-- a pair, the second part of which is a new list -/
def NpOk (C : Ctx) (O : List Addr) (H : Hp) (v : V) (a : D) (ds : List D) : Prop :=
  ∃ p l v0 vs, v = .ref p ∧ H p = some (.tup [v0, .ref l]) ∧ p ∉ O ∧ l ∉ O ∧ H l = some (.lst vs) ∧ (C.H0 l = none ∧ ¬ Pv H l) ∧ Rep C.K (hide O H) v0 a ∧ Reps C.K (hide O H) vs ds
def ROk (C : Ctx) (Γ : Env) (O : List Addr) (σ : St) (H : Hp) (v : V) : Res → Prop
  | .val d => RelO C Γ O σ H ∧ Rep C.K (hide O H) v d
  | .fr d => RelO C Γ O σ H ∧ FrOk C Γ O σ H v d
  | .pl i => RelO C Γ O σ H ∧ σ[i]? = some (some v)
  | .np a ds => RelO C Γ O σ H ∧ NpOk C O H v a ds
  | .hd a => RelO C Γ O σ H ∧ v = .ref a
/-- a result that waits while other things are done -/
def Pend (K : Fg) (O : List Addr) (σ : St) (H : Hp) (v : V) : Res → Prop
  | .val d => Rep K (hide O H) v d
  | .fr d => Rep K (hide O H) v d
  | .pl i => σ[i]? = some (some v)
  | .np a ds => Rep K (hide O H) v (.tup [a, .lst ds])
  | .hd a => v = .ref a
/-- a value that is read now -/
def B2 (K : Fg) (O : List Addr) (H : Hp) (v : V) (d : D) : Prop := Rep K (hide O H) v d ∨ ∃ l o, v = .ref l ∧ H l = some o ∧ OwnOk K (hide O H) o d
section
variable {C : Ctx} {Γ : Env} {O : List Addr} {σ : St} {H H' : Hp} {i : Nat} {d : D} {p : Addr} {o : HO} {v : V} {r : Res}
theorem FrOk.rep (h : FrOk C Γ O σ H v d) : Rep C.K (hide O H) v d := by
  obtain ⟨p, o, rfl, h1, h2, h3, h4, R⟩ := h
  refine (h4.mono hide_cons_sub).rep ?_
  rw [hide_out h2 (R.npv List.mem_cons_self)]; exact h1
theorem NpOk.rep {a : D} {ds : List D} (R : RelO C Γ O σ H) (h : NpOk C O H v a ds) : Rep C.K (hide O H) v (.tup [a, .lst ds]) := by
  obtain ⟨p, l, v0, vs, rfl, h1, h2, h3, h4, h7, h5, h6⟩ := h
  exact .tup (by rw [hide_out h2 (R.npvT h1)]; exact h1) (.cons h5 (.cons (.lst (by rw [hide_out h3 h7.2]; exact h4) h6) .nil))
/-- what was not private stays so -/
theorem RelO.npv0 (R : RelO C Γ O σ H) {a : Addr} (h : C.H0 a = some o) (n : ¬ Pv C.H0 a) : ¬ Pv H a := fun z => (R.pv.nw a z).elim (fun q => by rw [q] at h; cases h) n
theorem stGet_at : ∀ {Γ : DL.Env} {a : Addr} {d : D}, stGet Γ a = some d → ∃ (i : Nat) (S : Stor), Γ[i]? = some (Sl.st S) ∧ S.lookup a = some d ∧ ∀ c ns ds, d ≠ .obj c ns ds
  | [], _, _, h => by cases h
  | .st S :: Γ, a, d, h => by
    refine ⟨0, S, rfl, ?_⟩
    unfold stGet at h
    split at h
    · cases h
    · rename_i n; exact ⟨h, fun c ns ds z => n c ns ds (by rw [h, z])⟩
  | .no :: Γ, a, d, h => by obtain ⟨i, S, q⟩ := stGet_at (Γ := Γ) h; exact ⟨i + 1, S, q⟩
  | .sh _ :: Γ, a, d, h => by obtain ⟨i, S, q⟩ := stGet_at (Γ := Γ) h; exact ⟨i + 1, S, q⟩
  | .ow _ :: Γ, a, d, h => by obtain ⟨i, S, q⟩ := stGet_at (Γ := Γ) h; exact ⟨i + 1, S, q⟩
  | .io _ :: Γ, a, d, h => by obtain ⟨i, S, q⟩ := stGet_at (Γ := Γ) h; exact ⟨i + 1, S, q⟩
  | .bo _ :: Γ, a, d, h => by obtain ⟨i, S, q⟩ := stGet_at (Γ := Γ) h; exact ⟨i + 1, S, q⟩
  | .pn _ _ :: Γ, a, d, h => by obtain ⟨i, S, q⟩ := stGet_at (Γ := Γ) h; exact ⟨i + 1, S, q⟩
theorem RelO.cell (R : RelO C Γ O σ H) {a : Addr} (h : stGet Γ a = some d) : ∃ o, H a = some o ∧ OwnOk C.K (hide O H) o d ∧ Pv H a := by
  obtain ⟨i, S, h1, h2, h3⟩ := stGet_at h
  rcases (R.sl i _ h1).2.2 a d h2 with q | ⟨c, _, _, _, ns, ds, q, _⟩
  · exact q
  · exact absurd q (h3 c ns ds)
theorem ROk.rel (h : ROk C Γ O σ H v r) : RelO C Γ O σ H := by
  cases r with
  | val d => exact h.1
  | fr d => exact h.1
  | pl i => exact h.1
  | np a ds => exact h.1
  | hd a => exact h.1
theorem ROk.pend (h : ROk C Γ O σ H v r) : Pend C.K O σ H v r := by
  cases r with
  | val d => exact h.2
  | fr d => exact h.2.rep
  | pl i => exact h.2
  | np a ds => exact h.2.rep h.1
  | hd a => exact h.2
theorem Pend.mono {K : Fg} (e : Same (hide O H) (hide O H')) (h : Pend K O σ H v r) : Pend K O σ H' v r := by
  cases r with
  | val d => exact Rep.mono e h
  | fr d => exact Rep.mono e h
  | pl i => exact h
  | np a ds => exact Rep.mono e h
  | hd a => exact h
theorem Pend.dat {K : Fg} (h : Pend K O σ H v r) (e : dat r = some d) : Rep K (hide O H) v d := by
  cases r with
  | val d' => cases e; exact h
  | fr d' => cases e; exact h
  | pl i => cases e
  | np a ds => cases e; exact h
  | hd a => cases e
theorem Pend.b2 (R : RelO C Γ O σ H) (h : Pend C.K O σ H v r) (e : rd Γ r = some d) : B2 C.K O H v d := by
  cases r with
  | val d' => cases e; exact .inl h
  | fr d' => cases e; exact .inl h
  | np a ds => cases e; exact .inl h
  | hd a =>
    obtain ⟨o, h1, h2, _⟩ := R.cell (show stGet Γ a = some d from e)
    exact .inr ⟨a, o, h, h1, h2⟩
  | pl i =>
    have e : cont Γ[i]? = some d := e
    cases q : Γ[i]? with
    | none => rw [q] at e; cases e
    | some s =>
      rw [q] at e
      have k := R.sl i s q
      cases s with
      | no => cases e
      | sh d' => cases e
      | ow d' =>
        cases e
        obtain ⟨l, o, h1, h2, h3, h4, h5⟩ := k
        have h : σ[i]? = some (some v) := h
        rw [h] at h1; cases h1
        exact .inr ⟨l, o, rfl, h4, h5⟩
      | io d' =>
        cases e
        obtain ⟨l, o, h1, h2, h3, h4, h5⟩ := k
        have h : σ[i]? = some (some v) := h
        rw [h] at h1; cases h1
        exact .inr ⟨l, o, rfl, h4, h5⟩
      | bo d' =>
        cases e
        obtain ⟨v', h1, h2, h3⟩ := k
        have h : σ[i]? = some (some v) := h
        rw [h] at h1; cases h1
        rcases h3 with h3 | ⟨l, o, h3, h4, h5, h6⟩
        · exact .inl h3
        · exact .inr ⟨l, o, h3, R.fr l o h4 h5.1, h6⟩
      | pn b P => cases e
      | st S => cases e
end
end DL
/-! the data layer, part 2: readings of expressions over data -/
namespace DL
open PySem L2
abbrev QE := Res → Env → Prop
abbrev DTE := Env → QE → Prop
abbrev DTT := Env → (Bool → Env → Prop) → Prop
abbrev DTA := Env → (List Res → Env → Prop) → Prop
inductive Pends (K : Fg) (O : List Addr) (σ : St) (H : Hp) : List V → List Res → Prop
  | nil : Pends K O σ H [] []
  | cons {v : V} {vs : List V} {r : Res} {rs : List Res} : Pend K O σ H v r → Pends K O σ H vs rs → Pends K O σ H (v :: vs) (r :: rs)
theorem Pends.mono {K : Fg} {O : List Addr} {σ : St} {H H' : Hp} (e : Same (hide O H) (hide O H')) : ∀ {vs : List V} {rs : List Res}, Pends K O σ H vs rs → Pends K O σ H' vs rs
  | _, _, .nil => .nil
  | _, _, .cons h t => .cons (h.mono e) (Pends.mono e t)
/-- what was shared stays; a new object is new -/
def SE (O : List Addr) (H H' : Hp) (v : V) (r : Res) : Prop := Same (hide O H) (hide O H') ∧ ∀ d p, r = .fr d → v = .ref p → Same (hide O H) (hide (p :: O) H')
theorem SE.val {O : List Addr} {H H' : Hp} {v : V} {d : D} (h : Same (hide O H) (hide O H')) : SE O H H' v (.val d) := ⟨h, fun _ _ e => nomatch e⟩
theorem SE.pl {O : List Addr} {H H' : Hp} {v : V} {i : Nat} (h : Same (hide O H) (hide O H')) : SE O H H' v (.pl i) := ⟨h, fun _ _ e => nomatch e⟩
theorem SE.fr {O : List Addr} {H H' : Hp} {p : Addr} {d : D} (h : Same (hide O H) (hide (p :: O) H')) : SE O H H' (.ref p) (.fr d) := ⟨L2.Same.trans h hide_cons_sub, fun _ _ _ e => by cases e; exact h⟩
theorem SE.after {O : List Addr} {H H1 H' : Hp} {v : V} {r : Res} (h : Same (hide O H) (hide O H1)) (e : SE O H1 H' v r) : SE O H H' v r := ⟨L2.Same.trans h e.1, fun d p e1 e2 => L2.Same.trans h (e.2 d p e1 e2)⟩
/-- e reads as t over slots and heap, and as m over data -/
def SimE (C : Ctx) (t : TE) (m : DTE) : Prop := ∀ (Γ : Env) (O : List Addr) (σ : St) (H : Hp) (Qd : QE) (Q : VK), RelO C Γ O σ H → m Γ Qd →
  (∀ r Γ' v H', ROk C Γ' O σ H' v r → SE O H H' v r → Qd r Γ' → Q v H') → t σ H Q
def SimT (C : Ctx) (t : TT) (m : DTT) : Prop := ∀ (Γ : Env) (O : List Addr) (σ : St) (H : Hp) (Qd : Bool → Env → Prop) (Q : Bool → Hp → Prop), RelO C Γ O σ H → m Γ Qd →
  (∀ b Γ' H', RelO C Γ' O σ H' → Same (hide O H) (hide O H') → Qd b Γ' → Q b H') → t σ H Q
def SimA (C : Ctx) (t : TA) (m : DTA) : Prop := ∀ (Γ : Env) (O : List Addr) (σ : St) (H : Hp) (Qd : List Res → Env → Prop) (Q : List V → Hp → Prop), RelO C Γ O σ H → m Γ Qd →
  (∀ rs Γ' vs H', RelO C Γ' O σ H' → Pends C.K O σ H' vs rs → Same (hide O H) (hide O H') → Qd rs Γ' → Q vs H') → t σ H Q
structure DE (X : Cx) (C : Ctx) (e : Expr) (t : TE) (m : DTE) : Prop where
  pe : PE X e t
  sim : SimE C t m
structure DT (X : Cx) (C : Ctx) (e : Expr) (t : TT) (m : DTT) : Prop where
  pt : PT X e t
  sim : SimT C t m
structure DW (X : Cx) (C : Ctx) (e : Expr) (t : TT) (m : DTT) : Prop where
  pw : PW X e t
  sim : SimT C t m
structure DA (X : Cx) (C : Ctx) (es : List Expr) (t : TA) (m : DTA) : Prop where
  pa : PA X es t
  sim : SimA C t m
/-- what an operation on values may hand back -/
structure Outs (K : Fg) (O : List Addr) (H : Hp) (Qd : Res → Prop) (Q : VK) : Prop where
  val : ∀ v d, Rep K (hide O H) v d → Qd (.val d) → Q v H
  new : ∀ p o d, H p = none → OwnOk K (hide O H) o d → Qd (.fr d) → Q (.ref p) (upd H p o)
  newT : ∀ p vs ds, H p = none → Reps K (hide O H) vs ds → Qd (.val (.tup ds)) → Q (.ref p) (upd H p (.tup vs))
section
variable {C : Ctx} {Γ Γ' : Env} {O : List Addr} {σ : St} {H H1 H' : Hp} {Qd : QE} {Q : VK}
theorem SameH.trans {a b c : Hp} (h : Same a b) (k : Same b c) : Same a c := L2.Same.trans h k
theorem outs_of (R : RelO C Γ' O σ H1) (e : Same (hide O H) (hide O H1)) (k : ∀ r Γ' v H', ROk C Γ' O σ H' v r → SE O H H' v r → Qd r Γ' → Q v H') : Outs C.K O H1 (fun r => Qd r Γ') Q where
  val := fun v d r q => k (.val d) Γ' v H1 ⟨R, r⟩ (.val e) q
  new := fun p o d hp ho q => k (.fr d) Γ' (.ref p) (upd H1 p o) ⟨R.alloc hp ho.nr, p, o, rfl, upd_same, R.notin hp, R.fresh0 hp, ho.mono (hide_newO hp ho.nr), R.allocO hp ho.tk⟩ (.fr (L2.Same.trans e (hide_newO hp ho.nr))) q
  newT := fun p vs ds hp hr q => k (.val (.tup ds)) Γ' (.ref p) (upd H1 p (.tup vs)) ⟨R.alloc hp, .tup (by rw [hide_out (R.notin hp) ((R.alloc hp (o := .tup vs)).npvT upd_same)]; exact upd_same) (hr.mono (hide_new hp rfl))⟩ (.val (L2.Same.trans e (hide_new hp rfl))) q
end
section
variable {K : Fg} {O : List Addr} {H : Hp} {x : V}
theorem B2.int {i : Int} (h : B2 K O H x (.int i)) : x = .int i := by
  rcases h with h | ⟨l, o, _, _, h⟩
  · cases h; rfl
  · cases h
theorem B2.bl {i : Bool} (h : B2 K O H x (.bl i)) : x = .bl i := by
  rcases h with h | ⟨l, o, _, _, h⟩
  · cases h; rfl
  · cases h
theorem B2.str {i : Str} (h : B2 K O H x (.str i)) : x = .str i := by
  rcases h with h | ⟨l, o, _, _, h⟩
  · cases h; rfl
  · cases h
theorem B2.non (h : B2 K O H x .non) : x = .non := by
  rcases h with h | ⟨l, o, _, _, h⟩
  · cases h; rfl
  · cases h
theorem B2.lst {ds : List D} (h : B2 K O H x (.lst ds)) : ∃ a vs, x = .ref a ∧ H a = some (.lst vs) ∧ Reps K (hide O H) vs ds := by
  rcases h with h | ⟨l, o, rfl, h1, h⟩
  · cases h with | lst h r => exact ⟨_, _, rfl, hide_same _ _ h, r⟩
  · cases h with | lst r => exact ⟨l, _, rfl, h1, r⟩
theorem B2.scr {ds : List D} (h : B2 K O H x (.scr ds)) : ∃ a vs, x = .ref a ∧ SqL K H a vs ∧ Reps K (hide O H) vs ds := by
  rcases h with h | ⟨l, o, rfl, h1, h⟩
  · cases h with | scr h r => exact ⟨_, _, rfl, hide_same.seq h, r⟩
  · cases h
theorem B2.tup {ds : List D} (h : B2 K O H x (.tup ds)) : ∃ a vs, x = .ref a ∧ H a = some (.tup vs) ∧ Reps K (hide O H) vs ds := by
  rcases h with h | ⟨l, o, rfl, h1, h⟩
  · cases h with | tup h r => exact ⟨_, _, rfl, hide_same _ _ h, r⟩
  · cases h
theorem B2.dic {ds : List (Key × D)} (h : B2 K O H x (.dic ds)) : ∃ a vs, x = .ref a ∧ H a = some (.dK vs) ∧ RepK K (hide O H) vs ds := by
  rcases h with h | ⟨l, o, rfl, h1, h⟩
  · cases h with | dic h r => exact ⟨_, _, rfl, hide_same _ _ h, r⟩
  · cases h with | dic r => exact ⟨l, _, rfl, h1, r⟩
theorem B2.dit {ds : List (List Key × D)} (h : B2 K O H x (.dit ds)) : ∃ a vs, x = .ref a ∧ H a = some (.dT vs) ∧ RepT K (hide O H) vs ds := by
  rcases h with h | ⟨l, o, rfl, h1, h⟩
  · cases h with | dit h r => exact ⟨_, _, rfl, hide_same _ _ h, r⟩
  · cases h with | dit r => exact ⟨l, _, rfl, h1, r⟩
theorem B2.obj {c : Addr} {ns : List Str} {ds : List D} (h : B2 K O H x (.obj c ns ds)) : ∃ a dx fs, x = .ref a ∧ H a = some (.ins c dx fs) ∧ fs.map (·.1) = ns ∧ Reps K (hide O H) (fs.map (·.2)) ds := by
  rcases h with h | ⟨l, o, rfl, h1, h⟩
  · cases h with | obj h n r => exact ⟨_, _, _, rfl, hide_same _ _ h, n, r⟩
  · cases h with | obj n _ r => exact ⟨_, _, _, rfl, h1, n, r⟩
end
/-! ### the readings over data -/
def mVar (i : Nat) : DTE := fun Γ Q => match Γ[i]? with
  | some (.sh d) => Q (.val d) Γ
  | some (.ow _) => Q (.pl i) Γ
  | some (.io _) => Q (.pl i) Γ
  | some (.bo _) => Q (.pl i) Γ
  | some (.pn _ _) => Q (.pl i) Γ
  | _ => False
def mC (d : D) : DTE := fun Γ Q => Q (.val d) Γ
def mOp (f : D → D → (Res → Prop) → Prop) (ma mb : DTE) : DTE := fun Γ Q => ma Γ fun ra Γ1 => mb Γ1 fun rb Γ2 => ∃ a b, rd Γ2 ra = some a ∧ rd Γ2 rb = some b ∧ f a b fun r => Q r Γ2
def mUn (f : D → (Res → Prop) → Prop) (ma : DTE) : DTE := fun Γ Q => ma Γ fun ra Γ1 => ∃ a, rd Γ1 ra = some a ∧ f a fun r => Q r Γ1
def mTest (ma : DTE) : DTT := fun Γ Q => ma Γ fun r Γ1 => ∃ b, r = .val (.bl b) ∧ Q b Γ1
def mAndV (ma mb : DTE) : DTE := fun Γ Q => ma Γ fun r Γ1 => ∃ b, r = .val (.bl b) ∧ if b = true then mb Γ1 Q else Q (.val (.bl false)) Γ1
def mOrV (ma mb : DTE) : DTE := fun Γ Q => ma Γ fun r Γ1 => ∃ b, r = .val (.bl b) ∧ if b = true then Q (.val (.bl true)) Γ1 else mb Γ1 Q
def mNotV (ma : DTE) : DTE := fun Γ Q => ma Γ fun r Γ1 => ∃ b, r = .val (.bl b) ∧ Q (.val (.bl (!b))) Γ1
def mAnd (ma mb : DTT) : DTT := fun Γ Q => ma Γ fun b Γ1 => if b = true then mb Γ1 Q else Q false Γ1
def mOr (ma mb : DTT) : DTT := fun Γ Q => ma Γ fun b Γ1 => if b = true then Q true Γ1 else mb Γ1 Q
def mNot (ma : DTT) : DTT := fun Γ Q => ma Γ fun b Γ1 => Q (!b) Γ1
def mIf (mt : DTT) (ma mb : DTE) : DTE := fun Γ Q => mt Γ fun b Γ1 => if b = true then ma Γ1 Q else mb Γ1 Q
def mNil : DTA := fun Γ Q => Q [] Γ
def mCons (ma : DTE) (mr : DTA) : DTA := fun Γ Q => ma Γ fun r Γ1 => mr Γ1 fun rs Γ2 => Q (r :: rs) Γ2
def dats : List Res → Option (List D)
  | [] => some []
  | r :: rs => match dat r, dats rs with
    | some d, some ds => some (d :: ds)
    | _, _ => none
def rds (Γ : Env) : List Res → Option (List D)
  | [] => some []
  | r :: rs => match rd Γ r, rds Γ rs with
    | some d, some ds => some (d :: ds)
    | _, _ => none
def mTup (ma : DTA) : DTE := fun Γ Q => ma Γ fun rs Γ1 => ∃ ds, dats rs = some ds ∧ ds.length ≤ 100000 ∧ Q (.val (.tup ds)) Γ1
def mLst (ma : DTA) : DTE := fun Γ Q => ma Γ fun rs Γ1 => ∃ ds, dats rs = some ds ∧ ds.length ≤ 100000 ∧ Q (.fr (.lst ds)) Γ1
/-- a call of a built-in, by values -/
def mCB (f : List D → (Res → Prop) → Prop) (ma : DTA) : DTE := fun Γ Q => ma Γ fun rs Γ1 => ∃ ds, rds Γ1 rs = some ds ∧ f ds fun r => Q r Γ1
section
variable {X : Cx} {C : Ctx} {ta tb tc : TE} {ma mb mc : DTE} {a b c e : Expr} {pos : Pos} {tA tB' : TT} {mA mB : DTT}
theorem dats_ok {K : Fg} {O : List Addr} {σ : St} {H : Hp} : ∀ {vs : List V} {rs : List Res} {ds : List D}, Pends K O σ H vs rs → dats rs = some ds → Reps K (hide O H) vs ds
  | _, _, _, .nil, e => by cases e; exact .nil
  | _, _, ds, .cons (r := r) (rs := rs) h t, e => by
    unfold dats at e
    split at e
    · rename_i d ds' e1 e2
      cases e
      exact .cons (h.dat e1) (dats_ok t e2)
    · cases e
inductive B2s (K : Fg) (O : List Addr) (H : Hp) : List V → List D → Prop
  | nil : B2s K O H [] []
  | cons {v : V} {vs : List V} {d : D} {ds : List D} : B2 K O H v d → B2s K O H vs ds → B2s K O H (v :: vs) (d :: ds)
theorem rds_ok {Γ : Env} {O : List Addr} {σ : St} {H : Hp} (R : RelO C Γ O σ H) : ∀ {vs : List V} {rs : List Res} {ds : List D}, Pends C.K O σ H vs rs → rds Γ rs = some ds → B2s C.K O H vs ds
  | _, _, _, .nil, e => by cases e; exact .nil
  | _, _, ds, .cons (r := r) (rs := rs) h t, e => by
    unfold rds at e
    split at e
    · rename_i d ds' e1 e2
      cases e
      exact .cons (h.b2 R e1) (rds_ok R t e2)
    · cases e
theorem sim_var (i : Nat) : SimE C (tVar i) (mVar i) := fun Γ O σ H Qd Q R h k => by
  unfold mVar at h
  cases e : Γ[i]? with
  | none => rw [e] at h; exact h.elim
  | some s =>
    rw [e] at h
    have q := R.sl i s e
    cases s with
    | no => exact h.elim
    | sh d =>
      obtain ⟨v, h1, h2⟩ := q
      exact ⟨v, h1, k (.val d) _ _ _ ⟨R, h2⟩ (.val (L2.Same.refl _)) h⟩
    | ow d =>
      obtain ⟨l, o, h1, _⟩ := q
      exact ⟨_, h1, k (.pl i) _ _ _ ⟨R, h1⟩ (.pl (L2.Same.refl _)) h⟩
    | io d =>
      obtain ⟨l, o, h1, _⟩ := q
      exact ⟨_, h1, k (.pl i) _ _ _ ⟨R, h1⟩ (.pl (L2.Same.refl _)) h⟩
    | bo d =>
      obtain ⟨v, h1, _⟩ := q
      exact ⟨_, h1, k (.pl i) _ _ _ ⟨R, h1⟩ (.pl (L2.Same.refl _)) h⟩
    | pn b P => exact ⟨_, q.1, k (.pl i) _ _ _ ⟨R, q.1⟩ (.pl (L2.Same.refl _)) h⟩
    | st S => exact h.elim
theorem de_var (i : Nat) {x : Str} (h : PE X (.Name x pos) (tVar i)) : DE X C (.Name x pos) (tVar i) (mVar i) := ⟨h, sim_var i⟩
theorem sim_c {v : V} {d : D} (h : ∀ (K : Fg) (H : Hp), Rep K H v d) : SimE C (tC v) (mC d) := fun Γ O σ H Qd Q R q k => k (.val d) _ _ _ ⟨R, h _ _⟩ (.val (L2.Same.refl _)) q
theorem de_int {i : Int} {j} : DE X C (.Constant (.int i) j pos) (tC (.int i)) (mC (.int i)) := ⟨pe_int, sim_c fun _ _ => .int i⟩
theorem de_bl {i : Bool} {j} : DE X C (.Constant (.bool i) j pos) (tC (.bl i)) (mC (.bl i)) := ⟨pe_bl, sim_c fun _ _ => .bl i⟩
theorem de_non {j} : DE X C (.Constant .none j pos) (tC .non) (mC .non) := ⟨pe_non, sim_c fun _ _ => .non⟩
theorem de_str {x : Str} {j} : DE X C (.Constant (.str x) j pos) (tC (.str x)) (mC (.str x)) := ⟨pe_str, sim_c fun _ _ => .str x⟩
/-- a module's constant that is an int, a text -/
theorem de_globI {x : Str} {i : Int} (h : PE X (.Name x pos) (tC (.int i))) : DE X C (.Name x pos) (tC (.int i)) (mC (.int i)) := ⟨h, sim_c fun _ _ => .int i⟩
def SimR2 (K : Fg) (r : R2) (f : D → D → (Res → Prop) → Prop) : Prop := ∀ (O : List Addr) (H : Hp) (x y : V) (a b : D) (Qd : Res → Prop) (Q : VK), B2 K O H x a → B2 K O H y b → f a b Qd → Outs K O H Qd Q → r x y H Q
def SimR1 (K : Fg) (r : V → Hp → VK → Prop) (f : D → (Res → Prop) → Prop) : Prop := ∀ (O : List Addr) (H : Hp) (x : V) (a : D) (Qd : Res → Prop) (Q : VK), B2 K O H x a → f a Qd → Outs K O H Qd Q → r x H Q
def SimRC (K : Fg) (r : List V → Hp → VK → Prop) (f : List D → (Res → Prop) → Prop) : Prop := ∀ (O : List Addr) (H : Hp) (vs : List V) (ds : List D) (Qd : Res → Prop) (Q : VK), B2s K O H vs ds → f ds Qd → Outs K O H Qd Q → r vs H Q
theorem sim_op {r : R2} {f : D → D → (Res → Prop) → Prop} (ha : SimE C ta ma) (hb : SimE C tb mb) (hr : SimR2 C.K r f) : SimE C (tOp r ta tb) (mOp f ma mb) := fun Γ O σ H Qd Q R h k => by
  refine ha Γ O σ H _ _ R h fun ra Γ1 x H1 R1 e1 q1 => ?_
  refine hb Γ1 O σ H1 _ _ R1.rel q1 fun rb Γ2 y H2 R2 e2 q2 => ?_
  obtain ⟨a, b, h1, h2, q⟩ := q2
  exact hr O H2 x y a b _ _ ((R1.pend.mono e2.1).b2 R2.rel h1) (R2.pend.b2 R2.rel h2) q (outs_of R2.rel (L2.Same.trans e1.1 e2.1) k)
theorem sim_un {r : V → Hp → VK → Prop} {f : D → (Res → Prop) → Prop} (ha : SimE C ta ma) (hr : SimR1 C.K r f) : SimE C (tUn r ta) (mUn f ma) := fun Γ O σ H Qd Q R h k => by
  refine ha Γ O σ H _ _ R h fun ra Γ1 x H1 R1 e1 q1 => ?_
  obtain ⟨a, h1, q⟩ := q1
  exact hr O H1 x a _ _ (R1.pend.b2 R1.rel h1) q (outs_of R1.rel e1.1 k)
theorem sim_test (ha : SimE C ta ma) : SimT C (tTest ta) (mTest ma) := fun Γ O σ H Qd Q R h k => by
  refine ha Γ O σ H _ _ R h fun ra Γ1 x H1 R1 e1 q1 => ?_
  obtain ⟨b, rfl, q⟩ := q1
  exact ⟨b, (show B2 C.K O H1 x (.bl b) from .inl R1.2).bl, k b Γ1 H1 R1.rel e1.1 q⟩
theorem sim_andV (ha : SimE C ta ma) (hb : SimE C tb mb) : SimE C (tAndV ta tb) (mAndV ma mb) := fun Γ O σ H Qd Q R h k => by
  refine ha Γ O σ H _ _ R h fun ra Γ1 x H1 R1 e1 q1 => ?_
  obtain ⟨c, rfl, q⟩ := q1
  refine ⟨c, (show B2 C.K O H1 x (.bl c) from .inl R1.2).bl, ?_⟩
  cases c with
  | true => exact hb Γ1 O σ H1 _ _ R1.rel q fun r Γ2 v H2 R2 e2 q2 => k r Γ2 v H2 R2 (.after e1.1 e2) q2
  | false => exact k (.val (.bl false)) Γ1 _ H1 ⟨R1.rel, .bl false⟩ (.val e1.1) q
theorem sim_notV (ha : SimE C ta ma) : SimE C (tNotV ta) (mNotV ma) := fun Γ O σ H Qd Q R h k => by
  refine ha Γ O σ H _ _ R h fun ra Γ1 x H1 R1 e1 q1 => ?_
  obtain ⟨c, rfl, q⟩ := q1
  exact ⟨c, (show B2 C.K O H1 x (.bl c) from .inl R1.2).bl, k (.val (.bl (!c))) Γ1 _ H1 ⟨R1.rel, .bl _⟩ (.val e1.1) q⟩
theorem sim_and (ha : SimT C tA mA) (hb : SimT C tB' mB) : SimT C (tAnd tA tB') (mAnd mA mB) := fun Γ O σ H Qd Q R h k => by
  refine ha Γ O σ H _ _ R h fun c Γ1 H1 R1 e1 q => ?_
  cases c with
  | true => exact hb Γ1 O σ H1 _ _ R1 q fun r Γ2 H2 R2 e2 q2 => k r Γ2 H2 R2 (L2.Same.trans e1 e2) q2
  | false => exact k _ Γ1 H1 R1 e1 q
theorem sim_or (ha : SimT C tA mA) (hb : SimT C tB' mB) : SimT C (tOr tA tB') (mOr mA mB) := fun Γ O σ H Qd Q R h k => by
  refine ha Γ O σ H _ _ R h fun c Γ1 H1 R1 e1 q => ?_
  cases c with
  | false => exact hb Γ1 O σ H1 _ _ R1 q fun r Γ2 H2 R2 e2 q2 => k r Γ2 H2 R2 (L2.Same.trans e1 e2) q2
  | true => exact k _ Γ1 H1 R1 e1 q
theorem sim_not (ha : SimT C tA mA) : SimT C (tNot tA) (mNot mA) := fun Γ O σ H Qd Q R h k => ha Γ O σ H _ _ R h fun c Γ1 H1 R1 e1 q => k _ Γ1 H1 R1 e1 q
theorem sim_nil : SimA C tNil mNil := fun Γ O σ H Qd Q R h k => k [] Γ [] H R .nil (L2.Same.refl _) h
theorem sim_cons {tr : TA} {mr : DTA} (ha : SimE C ta ma) (hr : SimA C tr mr) : SimA C (tCons ta tr) (mCons ma mr) := fun Γ O σ H Qd Q R h k => by
  refine ha Γ O σ H _ _ R h fun ra Γ1 x H1 R1 e1 q1 => ?_
  exact hr Γ1 O σ H1 _ _ R1.rel q1 fun rs Γ2 vs H2 R2 p2 e2 q2 => k _ Γ2 _ H2 R2 (.cons (R1.pend.mono e2) p2) (L2.Same.trans e1.1 e2) q2
theorem sim_tup {tr : TA} {mr : DTA} (hr : SimA C tr mr) : SimE C (tTup tr) (mTup mr) := fun Γ O σ H Qd Q R h k => by
  refine hr Γ O σ H _ _ R h fun rs Γ1 vs H1 R1 p1 e1 q1 => ?_
  obtain ⟨ds, h1, h2, q⟩ := q1
  have hr := dats_ok p1 h1
  refine ⟨by rw [hr.length]; exact Nat.le_trans h2 (by decide), fun p hp => (outs_of R1 e1 k).newT p vs ds hp hr q⟩
theorem sim_lst {tr : TA} {mr : DTA} (hr : SimA C tr mr) : SimE C (tLst tr) (mLst mr) := fun Γ O σ H Qd Q R h k => by
  refine hr Γ O σ H _ _ R h fun rs Γ1 vs H1 R1 p1 e1 q1 => ?_
  obtain ⟨ds, h1, h2, q⟩ := q1
  have hr := dats_ok p1 h1
  refine ⟨by rw [hr.length]; exact Nat.le_trans h2 (by decide), fun p hp => (outs_of R1 e1 k).new p _ _ hp (.lst hr) q⟩
theorem sim_cb {tr : TA} {mr : DTA} {r : List V → Hp → VK → Prop} {f : List D → (Res → Prop) → Prop} (ha : SimA C tr mr) (hr : SimRC C.K r f) : SimE C (tCB r tr) (mCB f mr) := fun Γ O σ H Qd Q R h k => by
  refine ha Γ O σ H _ _ R h fun rs Γ1 vs H1 R1 p1 e1 q1 => ?_
  obtain ⟨ds, h1, q⟩ := q1
  exact hr O H1 vs ds _ _ (rds_ok R1 p1 h1) q (outs_of R1 e1 k)
/-! ### rules -/
theorem de_op {op : Operator} {r : R2} {f : D → D → (Res → Prop) → Prop} (ho : OpR X (binaryOp op) r) (hr : SimR2 C.K r f) (ha : DE X C a ta ma) (hb : DE X C b tb mb) : DE X C (.BinOp a op b pos) (tOp r ta tb) (mOp f ma mb) :=
  ⟨pe_op ho ha.pe hb.pe, sim_op ha.sim hb.sim hr⟩
theorem de_un {op : UnaryOp} {r : V → Hp → VK → Prop} {f : D → (Res → Prop) → Prop} (ho : UnR X (unaryOp op) r) (hr : SimR1 C.K r f) (ha : DE X C a ta ma) : DE X C (.UnaryOp op a pos) (tUn r ta) (mUn f ma) :=
  ⟨pe_un ho ha.pe, sim_un ha.sim hr⟩
theorem de_cmp {op : CmpOp} {r : R2} {f : D → D → (Res → Prop) → Prop} (ho : OpR X (compareOp op) r) (hr : SimR2 C.K r f) (ha : DE X C a ta ma) (hb : DE X C b tb mb) (hm : behindInMarks op b = false) : DE X C (.Compare a [op] [b] pos) (tOp r ta tb) (mOp f ma mb) :=
  ⟨pe_cmpR ho ha.pe hb.pe hm, sim_op ha.sim hb.sim hr⟩
theorem dt_cmp {op : CmpOp} {r : R2} {f : D → D → (Res → Prop) → Prop} (ho : OpR X (compareOp op) r) (hr : SimR2 C.K r f) (ha : DE X C a ta ma) (hb : DE X C b tb mb) (hm : behindInMarks op b = false) : DT X C (.Compare a [op] [b] pos) (tTest (tOp r ta tb)) (mTest (mOp f ma mb)) :=
  ⟨pt_cmpR ho ha.pe hb.pe hm, sim_test (sim_op ha.sim hb.sim hr)⟩
theorem dt_val {t : TE} {m : DTE} (h : DE X C e t m) (he : ∀ whole, isTrue e X.env whole = (do let v ← whole; standAt e.pos; holding [v] (truthy v)) := by intro _; rfl) : DT X C e (tB t) (mTest m) := ⟨pt_val h.pe he, sim_test h.sim⟩
theorem dw_pt {t : TT} {m : DTT} (h : DW X C e t m) : DT X C e t m := ⟨h.pw.pt, h.sim⟩
theorem dw_and1 (ha : DT X C a tA mA) : DW X C (.BoolOp .And [a] pos) tA mA := ⟨pw_and1 ha.pt, ha.sim⟩
theorem dw_or1 (ha : DT X C a tA mA) : DW X C (.BoolOp .Or [a] pos) tA mA := ⟨pw_or1 ha.pt, ha.sim⟩
theorem dw_and {rest : List Expr} (ha : DT X C a tA mA) (hb : DW X C (.BoolOp .And (b :: rest) pos) tB' mB) : DW X C (.BoolOp .And (a :: b :: rest) pos) (tAnd tA tB') (mAnd mA mB) := ⟨pw_and ha.pt hb.pw, sim_and ha.sim hb.sim⟩
theorem dw_or {rest : List Expr} (ha : DT X C a tA mA) (hb : DW X C (.BoolOp .Or (b :: rest) pos) tB' mB) : DW X C (.BoolOp .Or (a :: b :: rest) pos) (tOr tA tB') (mOr mA mB) := ⟨pw_or ha.pt hb.pw, sim_or ha.sim hb.sim⟩
theorem dt_not (ha : DT X C a tA mA) : DT X C (.UnaryOp .Not a pos) (tNot tA) (mNot mA) := ⟨pt_not ha.pt, sim_not ha.sim⟩
theorem de_one {op} {t : TE} {m : DTE} (h : DE X C a t m) : DE X C (.BoolOp op [a] pos) t m := ⟨pe_one h.pe, h.sim⟩
theorem de_and {rest : List Expr} (ha : DE X C a ta ma) (hb : DE X C (.BoolOp .And (b :: rest) pos) tb mb) : DE X C (.BoolOp .And (a :: b :: rest) pos) (tAndV ta tb) (mAndV ma mb) := ⟨pe_and ha.pe hb.pe, sim_andV ha.sim hb.sim⟩
theorem de_not (ha : DE X C a ta ma) : DE X C (.UnaryOp .Not a pos) (tNotV ta) (mNotV ma) := ⟨pe_not ha.pe, sim_notV ha.sim⟩
theorem da_nil : DA X C [] tNil mNil := ⟨pa_nil, sim_nil⟩
theorem da_cons {es : List Expr} {tr : TA} {mr : DTA} (ha : DE X C e ta ma) (hr : DA X C es tr mr) (hs : starEach (e :: es) X.env = (false, eval e X.env) :: starEach es X.env := by rfl) : DA X C (e :: es) (tCons ta tr) (mCons ma mr) := ⟨pa_cons ha.pe hr.pa hs, sim_cons ha.sim hr.sim⟩
theorem de_tup {es : List Expr} {tr : TA} {mr : DTA} {x1} (h : DA X C es tr mr) : DE X C (.Tuple es x1 pos) (tTup tr) (mTup mr) := ⟨pe_tup h.pa, sim_tup h.sim⟩
theorem de_lst {es : List Expr} {tr : TA} {mr : DTA} (h : DA X C es tr mr) : DE X C (.List es pos) (tLst tr) (mLst mr) := ⟨pe_lst h.pa, sim_lst h.sim⟩
/-- a call of a built-in by its name -/
theorem de_cb {id : String} {x : Str} {p : Pos} {es : List Expr} {tr : TA} {mr : DTA} {r : List V → Hp → VK → Prop} {f : List D → (Res → Prop) → Prop} (hc : CallR X (.builtin id) r) (hr : SimRC C.K r f) (hg : Gl X x) (hm : X.mg x = none) (hv : bootBuiltins x = some (.builtin id)) (ha : DA X C (e :: es) tr mr)
    (hn : x ≠ "__name__" := by decide) (hdb : (x == ("__debug__" : Str)) = false := by decide) (he : starEach (e :: es) X.env = (false, eval e X.env) :: starEach es X.env := by rfl) (hpl : (backTo pos (starEach es X.env)).any (·.1) = false := by rfl) :
    DE X C (.Call (.Name x p) (e :: es) [] pos) (tCB r tr) (mCB f mr) := ⟨pe_callB hc hg hm hv ha.pa hn hdb he hpl, sim_cb ha.sim hr⟩
theorem de_ct {T : String} {x : Str} {p : Pos} {es : List Expr} {tr : TA} {mr : DTA} {r : List V → Hp → VK → Prop} {f : List D → (Res → Prop) → Prop} (hc : CallR X (.type T) r) (hr : SimRC C.K r f) (hg : Gl X x) (hm : X.mg x = none) (hv : bootBuiltins x = some (.type T)) (ha : DA X C (e :: es) tr mr)
    (hn : x ≠ "__name__" := by decide) (hdb : (x == ("__debug__" : Str)) = false := by decide) (he : starEach (e :: es) X.env = (false, eval e X.env) :: starEach es X.env := by rfl) (hpl : (backTo pos (starEach es X.env)).any (·.1) = false := by rfl) :
    DE X C (.Call (.Name x p) (e :: es) [] pos) (tCB r tr) (mCB f mr) := ⟨pe_callTy hc hg hm hv ha.pa hn hdb he hpl, sim_cb ha.sim hr⟩
end
end DL
/-! the data layer, part 3: operators over data -/
namespace DL
open PySem L2 PyProof.Rows
/-! ### data as the library's data -/
def keyPy : Key → PyData
  | .inl i => .int i
  | .inr s => .str s
mutual
def toPy : D → PyData
  | .non => .none
  | .bl b => .bool b
  | .int i => .int i
  | .str s => .str s
  | .lst ds => .list (toPys ds)
  | .scr ds => .list (toPys ds)
  | .tup ds => .tuple (toPys ds)
  | .dic kvs => .dict (toPyK kvs)
  | .dit _ => .none
  | .dkl kvs => .dict (toPyK kvs)
  | .dtl _ => .none
  | .pnK _ _ => .none
  | .pnT _ _ => .none
  | .obj _ _ _ => .none
  | .cls _ => .none
  | .xcl _ _ => .none
  | .sto _ => .none
def toPys : List D → List PyData
  | [] => []
  | d :: ds => toPy d :: toPys ds
def toPyK : List (Key × D) → List (PyData × PyData)
  | [] => []
  | (k, d) :: ds => (keyPy k, toPy d) :: toPyK ds
end
/-! no dict, no object within -/
mutual
def plain : D → Bool
  | .non => true
  | .bl _ => true
  | .int _ => true
  | .str _ => true
  | .lst ds => plains ds
  | .scr ds => plains ds
  | .tup ds => plains ds
  | .dic _ => false
  | .dit _ => false
  | .dkl _ => false
  | .dtl _ => false
  | .pnK _ _ => false
  | .pnT _ _ => false
  | .obj _ _ _ => false
  | .cls _ => false
  | .xcl _ _ => false
  | .sto _ => false
def plains : List D → Bool
  | [] => true
  | d :: ds => plain d && plains ds
end
section
variable {K : Fg} {H : Hp}
mutual
theorem Rep.dp : ∀ {v : V} {d : D}, Rep K H v d → plain d = true → Dp K H v (toPy d)
  | _, _, .non, _ => by rw [toPy]; exact .non
  | _, _, .bl b, _ => by rw [toPy]; exact .bl b
  | _, _, .int i, _ => by rw [toPy]; exact .int i
  | _, _, .str x, _ => by rw [toPy]; exact .str x
  | _, _, .lst h r, e => by rw [toPy]; exact .lst (SqL.of h) (Reps.dp r (by rw [plain] at e; exact e))
  | _, _, .scr h r, e => by rw [toPy]; exact .lst h (Reps.dp r (by rw [plain] at e; exact e))
  | _, _, .tup h r, e => by rw [toPy]; exact .tup (SqT.of h) (Reps.dp r (by rw [plain] at e; exact e))
  | _, _, .dic _ _, e => by rw [plain] at e; cases e
  | _, _, .dit _ _, e => by rw [plain] at e; cases e
  | _, _, .dkl _ _, e => by rw [plain] at e; cases e
  | _, _, .dtl _ _, e => by rw [plain] at e; cases e
  | _, _, .pnK _, e => by rw [plain] at e; cases e
  | _, _, .pnT _, e => by rw [plain] at e; cases e
  | _, _, .obj _ _ _, e => by rw [plain] at e; cases e
  | _, _, .cls _, e => by rw [plain] at e; cases e
  | _, _, .xcl _, e => by rw [plain] at e; cases e
theorem Reps.dp : ∀ {v : List V} {d : List D}, Reps K H v d → plains d = true → DpAll K H v (toPys d)
  | _, _, .nil, _ => by rw [toPys]; exact .nil
  | _, _, .cons h r, e => by
    rw [plains, Bool.and_eq_true] at e
    rw [toPys]; exact .cons (Rep.dp h e.1) (Reps.dp r e.2)
end
end
theorem B2.dp {K : Fg} {O : List Addr} {H : Hp} {v : V} {d : D} (h : B2 K O H v d) (e : plain d = true) : Dp K H v (toPy d) := by
  rcases h with h | ⟨l, o, rfl, h1, h⟩
  · exact (h.mono hide_same).dp e
  · exact ((h.mono hide_same).rep h1).dp e
/-- two data may be compared by == -/
def okE (d : D) : Bool := plain d && SeqAt.shaped (toPy d)
def eqv (a b : D) : Bool := PyData.eqv (toPy a) (toPy b)
/-! ### operators -/
def addD : D → D → (Res → Prop) → Prop
  | .int i, .int j, Q => Q (.val (.int (i + j)))
  | .lst xs, .lst ys, Q => xs.length + ys.length ≤ 100000 ∧ Q (.fr (.lst (xs ++ ys)))
  | .str x, .str y, Q => x.length + y.length ≤ 100000 ∧ Q (.val (.str (x ++ y)))
  | _, _, _ => False
def subD : D → D → (Res → Prop) → Prop
  | .int i, .int j, Q => Q (.val (.int (i - j)))
  | _, _, _ => False
def MulOk (i j : Int) : Prop := CMul i j ∨ CMulW i j
def mulD : D → D → (Res → Prop) → Prop
  | .int i, .int j, Q => MulOk i j ∧ Q (.val (.int (i * j)))
  | .lst xs, .int k, Q => (-(2 ^ 63) ≤ k ∧ k < 2 ^ 63 ∧ xs.length * k.toNat ≤ 100000) ∧ Q (.fr (.lst (List.replicate k.toNat xs).flatten))
  | _, _, _ => False
def fdivD : D → D → (Res → Prop) → Prop
  | .int i, .int j, Q => CDivW i j ∧ Q (.val (.int (i / j)))
  | _, _, _ => False
def modD : D → D → (Res → Prop) → Prop
  | .int i, .int j, Q => 0 < j ∧ Q (.val (.int (i % j)))
  | _, _, _ => False
def PowOk (i j : Int) : Prop := 0 ≤ j ∧ (Builtin.Int.intBits i : Int) * j ≤ 2 ^ 27
def powD : D → D → (Res → Prop) → Prop
  | .int i, .int j, Q => PowOk i j ∧ Q (.val (.int (i ^ j.toNat)))
  | _, _, _ => False
def negD : D → (Res → Prop) → Prop
  | .int i, Q => Q (.val (.int (-i)))
  | _, _ => False
def ltD : D → D → (Res → Prop) → Prop
  | .int i, .int j, Q => Q (.val (.bl (decide (i < j))))
  | _, _, _ => False
def leD : D → D → (Res → Prop) → Prop
  | .int i, .int j, Q => Q (.val (.bl (decide (i ≤ j))))
  | _, _, _ => False
def gtD : D → D → (Res → Prop) → Prop
  | .int i, .int j, Q => Q (.val (.bl (decide (j < i))))
  | _, _, _ => False
def geD : D → D → (Res → Prop) → Prop
  | .int i, .int j, Q => Q (.val (.bl (decide (j ≤ i))))
  | _, _, _ => False
def eqD (a b : D) (Q : Res → Prop) : Prop := okE a = true ∧ okE b = true ∧ Q (.val (.bl (eqv a b)))
def neD (a b : D) (Q : Res → Prop) : Prop := okE a = true ∧ okE b = true ∧ Q (.val (.bl (!eqv a b)))
def isNonD : D → Bool
  | .non => true
  | _ => false
/-- x is None, x is True (x a truth value) -/
def isD : D → D → (Res → Prop) → Prop
  | .bl x, .bl y, Q => Q (.val (.bl (decide (x = y))))
  | a, .non, Q => Q (.val (.bl (isNonD a)))
  | _, _, _ => False
def isNotD : D → D → (Res → Prop) → Prop
  | .bl x, .bl y, Q => Q (.val (.bl (!decide (x = y))))
  | a, .non, Q => Q (.val (.bl (!isNonD a)))
  | _, _, _ => False
/-- x[i] -/
def ixD : D → D → (Res → Prop) → Prop
  | .lst ds, .int i, Q => ∃ d, atI ds i = some d ∧ Q (.val d)
  | .tup ds, .int i, Q => ∃ d, atI ds i = some d ∧ Q (.val d)
  | .str z, .int i, Q => z.length ≤ 100000 ∧ ∃ c, atI z.cps.toList i = some c ∧ Q (.val (.str ⟨#[c]⟩))
  | _, _, _ => False
section
variable {X : Cx} {K : Fg}
def uAdd : R2 := fun x y H Q => (∃ i j, x = .int i ∧ y = .int j ∧ Q (.int (i + j)) H) ∨ (rCat x y H Q ∨ ∃ i j, x = .str i ∧ y = .str j ∧ i.length + j.length ≤ sizeLine ∧ Q (.str (i ++ j)) H)
theorem op_uAdd : OpR X (binaryOp .Add) uAdd := op_add.or (op_cat.or op_add_str)
theorem sz5 {n : Nat} (h : n ≤ 100000) : n ≤ sizeLine := Nat.le_trans h (by decide)
theorem sim_add : SimR2 K uAdd addD := fun O H x y a b Qd Q h1 h2 q k => by
  unfold addD at q
  split at q
  · obtain rfl := h1.int; obtain rfl := h2.int
    exact .inl ⟨_, _, rfl, rfl, k.val _ _ (.int _) q⟩
  · obtain ⟨p1, vs, rfl, e1, r1⟩ := h1.lst
    obtain ⟨p2, ws, rfl, e2, r2⟩ := h2.lst
    exact .inr (.inl ⟨p1, p2, vs, ws, rfl, rfl, e1, e2, by rw [r1.length, r2.length]; exact sz5 q.1, fun p hp => k.new p _ _ hp (.lst (r1.append r2)) q.2⟩)
  · obtain rfl := h1.str; obtain rfl := h2.str
    exact .inr (.inr ⟨_, _, rfl, rfl, sz5 q.1, k.val _ _ (.str _) q.2⟩)
  · exact q.elim
theorem sim_I0 {g : Int → Int → Int} {f : D → D → (Res → Prop) → Prop} (hf : ∀ a b Qd, f a b Qd → ∃ i j, a = .int i ∧ b = .int j ∧ Qd (.val (.int (g i j)))) : SimR2 K (rI0 fun i j => .int (g i j)) f := fun O H x y a b Qd Q h1 h2 q k => by
  obtain ⟨i, j, rfl, rfl, q2⟩ := hf a b Qd q
  obtain rfl := h1.int; obtain rfl := h2.int
  exact ⟨i, j, rfl, rfl, k.val _ _ (.int _) q2⟩
theorem sim_B0 {g : Int → Int → Bool} {f : D → D → (Res → Prop) → Prop} (hf : ∀ a b Qd, f a b Qd → ∃ i j, a = .int i ∧ b = .int j ∧ Qd (.val (.bl (g i j)))) : SimR2 K (rI0 fun i j => .bl (g i j)) f := fun O H x y a b Qd Q h1 h2 q k => by
  obtain ⟨i, j, rfl, rfl, q2⟩ := hf a b Qd q
  obtain rfl := h1.int; obtain rfl := h2.int
  exact ⟨i, j, rfl, rfl, k.val _ _ (.bl _) q2⟩
theorem sim_I {Cn : Int → Int → Prop} {g : Int → Int → Int} {f : D → D → (Res → Prop) → Prop} (hf : ∀ a b Qd, f a b Qd → ∃ i j, a = .int i ∧ b = .int j ∧ Cn i j ∧ Qd (.val (.int (g i j)))) : SimR2 K (rI Cn fun i j => .int (g i j)) f := fun O H x y a b Qd Q h1 h2 q k => by
  obtain ⟨i, j, rfl, rfl, c, q2⟩ := hf a b Qd q
  obtain rfl := h1.int; obtain rfl := h2.int
  exact ⟨i, j, rfl, rfl, c, k.val _ _ (.int _) q2⟩
theorem sim_sub : SimR2 K (rI0 fun i j => .int (i - j)) subD := sim_I0 fun a b Qd q => by
  unfold subD at q
  split at q
  · exact ⟨_, _, rfl, rfl, q⟩
  · exact q.elim
theorem sim_lt : SimR2 K (rI0 fun i j => .bl (decide (i < j))) ltD := sim_B0 fun a b Qd q => by
  unfold ltD at q
  split at q
  · exact ⟨_, _, rfl, rfl, q⟩
  · exact q.elim
theorem sim_gt : SimR2 K (rI0 fun i j => .bl (decide (j < i))) gtD := sim_B0 fun a b Qd q => by
  unfold gtD at q
  split at q
  · exact ⟨_, _, rfl, rfl, q⟩
  · exact q.elim
theorem sim_ge : SimR2 K (rI0 fun i j => .bl (decide (j ≤ i))) geD := sim_B0 fun a b Qd q => by
  unfold geD at q
  split at q
  · exact ⟨_, _, rfl, rfl, q⟩
  · exact q.elim
theorem sim_fdiv : SimR2 K (rI CDivW fun i j => .int (i / j)) fdivD := sim_I fun a b Qd q => by
  unfold fdivD at q
  split at q
  · exact ⟨_, _, rfl, rfl, q.1, q.2⟩
  · exact q.elim
theorem sim_mod : SimR2 K (rI (fun _ j => 0 < j) fun i j => .int (i % j)) modD := sim_I fun a b Qd q => by
  unfold modD at q
  split at q
  · exact ⟨_, _, rfl, rfl, q.1, q.2⟩
  · exact q.elim
theorem op_powW : OpR X (binaryOp .Pow) (rI PowOk fun i j => .int (i ^ j.toNat)) := opI fun _ _ _ _ _ _ _ hc q => pow_int hc.1 hc.2 q
theorem sim_pow : SimR2 K (rI PowOk fun i j => .int (i ^ j.toNat)) powD := sim_I fun a b Qd q => by
  unfold powD at q
  split at q
  · exact ⟨_, _, rfl, rfl, q.1, q.2⟩
  · exact q.elim
theorem sim_neg : SimR1 K (rU fun i => .int (-i)) negD := fun O H x a Qd Q h1 q k => by
  unfold negD at q
  split at q
  · obtain rfl := h1.int
    exact ⟨_, rfl, k.val _ _ (.int _) q⟩
  · exact q.elim
def uMul : R2 := fun x y H Q => (rI CMul fun i j => .int (i * j)) x y H Q ∨ ((rI CMulW fun i j => .int (i * j)) x y H Q ∨ rRep x y H Q)
theorem op_uMul : OpR X (binaryOp .Mult) uMul := op_mul.or (op_mulW.or op_rep)
theorem sim_mul : SimR2 K uMul mulD := fun O H x y a b Qd Q h1 h2 q k => by
  unfold mulD at q
  split at q
  · obtain rfl := h1.int; obtain rfl := h2.int
    rcases q.1 with c | c
    · exact .inl ⟨_, _, rfl, rfl, c, k.val _ _ (.int _) q.2⟩
    · exact .inr (.inl ⟨_, _, rfl, rfl, c, k.val _ _ (.int _) q.2⟩)
  · obtain ⟨p1, vs, rfl, e1, r1⟩ := h1.lst
    obtain rfl := h2.int
    exact .inr (.inr ⟨p1, _, vs, rfl, rfl, e1, q.1.1, q.1.2.1, by rw [r1.length]; exact sz5 q.1.2.2, fun p hp => k.new p _ _ hp (.lst (r1.rep _)) q.2⟩)
  · exact q.elim
theorem sim_eq : SimR2 K (rEqD K) eqD := fun O H x y a b Qd Q h1 h2 q k => by
  obtain ⟨q1, q2, q⟩ := q
  unfold okE at q1 q2
  rw [Bool.and_eq_true] at q1 q2
  exact ⟨_, _, h1.dp q1.1, h2.dp q2.1, q1.2, q2.2, k.val _ _ (.bl _) q⟩
theorem sim_ne : SimR2 K (rNeD K) neD := fun O H x y a b Qd Q h1 h2 q k => by
  obtain ⟨q1, q2, q⟩ := q
  unfold okE at q1 q2
  rw [Bool.and_eq_true] at q1 q2
  exact ⟨_, _, h1.dp q1.1, h2.dp q2.1, q1.2, q2.2, k.val _ _ (.bl _) q⟩
theorem Reps.atI {H : Hp} {vs : List V} {ds : List D} {i : Int} {d : D} (r : Reps K H vs ds) (h : L2.atI ds i = some d) : ∃ v, L2.atI vs i = some v ∧ Rep K H v d := by
  unfold L2.atI at h ⊢
  rw [r.length]
  cases e : ixN ds.length i with
  | none => rw [e] at h; cases h
  | some j =>
    rw [e] at h
    exact r.get h
theorem sim_ix : SimR2 K (rIx K) ixD := fun O H x y a b Qd Q h1 h2 q k => by
  unfold ixD at q
  split at q
  · obtain ⟨p, vs, rfl, e, r⟩ := h1.lst
    obtain rfl := h2.int
    obtain ⟨d, hd, q⟩ := q
    obtain ⟨v, hv, rv⟩ := r.atI hd
    exact .inl ⟨p, vs, _, v, rfl, rfl, SqL.of e, hv, k.val _ _ rv q⟩
  · obtain ⟨p, vs, rfl, e, r⟩ := h1.tup
    obtain rfl := h2.int
    obtain ⟨d, hd, q⟩ := q
    obtain ⟨v, hv, rv⟩ := r.atI hd
    exact .inr (.inl ⟨p, vs, _, v, rfl, rfl, SqT.of e, hv, k.val _ _ rv q⟩)
  · obtain rfl := h1.str
    obtain rfl := h2.int
    obtain ⟨hz, c, hc, q⟩ := q
    exact .inr (.inr ⟨_, _, c, rfl, rfl, sz5 hz, hc, k.val _ _ (.str _) q⟩)
  · exact q.elim
end
/-! ### rules -/
section
variable {X : Cx} {C : Ctx} {ta tb tc : TE} {ma mb mc : DTE} {a b c e : Expr} {pos : Pos}
theorem de_add (ha : DE X C a ta ma) (hb : DE X C b tb mb) : DE X C (.BinOp a .Add b pos) (tOp uAdd ta tb) (mOp addD ma mb) := de_op op_uAdd sim_add ha hb
theorem de_sub (ha : DE X C a ta ma) (hb : DE X C b tb mb) : DE X C (.BinOp a .Sub b pos) (tOp (rI0 fun i j => .int (i - j)) ta tb) (mOp subD ma mb) := de_op op_sub sim_sub ha hb
theorem de_mul (ha : DE X C a ta ma) (hb : DE X C b tb mb) : DE X C (.BinOp a .Mult b pos) (tOp uMul ta tb) (mOp mulD ma mb) := de_op op_uMul sim_mul ha hb
theorem de_fdiv (ha : DE X C a ta ma) (hb : DE X C b tb mb) : DE X C (.BinOp a .FloorDiv b pos) (tOp (rI CDivW fun i j => .int (i / j)) ta tb) (mOp fdivD ma mb) := de_op op_fdivW sim_fdiv ha hb
theorem de_mod (ha : DE X C a ta ma) (hb : DE X C b tb mb) : DE X C (.BinOp a .Mod b pos) (tOp (rI (fun _ j => 0 < j) fun i j => .int (i % j)) ta tb) (mOp modD ma mb) := de_op op_mod sim_mod ha hb
theorem de_pow (ha : DE X C a ta ma) (hb : DE X C b tb mb) : DE X C (.BinOp a .Pow b pos) (tOp (rI PowOk fun i j => .int (i ^ j.toNat)) ta tb) (mOp powD ma mb) := de_op op_powW sim_pow ha hb
theorem de_neg (ha : DE X C a ta ma) : DE X C (.UnaryOp .USub a pos) (tUn (rU fun i => .int (-i)) ta) (mUn negD ma) := de_un un_neg sim_neg ha
theorem de_gt (ha : DE X C a ta ma) (hb : DE X C b tb mb) : DE X C (.Compare a [.Gt] [b] pos) (tOp (rI0 fun i j => .bl (decide (j < i))) ta tb) (mOp gtD ma mb) := de_cmp op_gt sim_gt ha hb (nomark _)
theorem de_eq (hu : X.A.units + 64 < cLine) (ha : DE X C a ta ma) (hb : DE X C b tb mb) {K0 : Fg} (hK0 : X.K = K0 := by rfl) (hK : K0 = C.K := by rfl) : DE X C (.Compare a [.Eq] [b] pos) (tOp (rEqD K0) ta tb) (mOp eqD ma mb) := by
  subst hK0
  exact (de_cmp (op_eqD hu) (by rw [hK]; exact sim_eq) ha hb (nomark _))
theorem de_ix (ha : DE X C a ta ma) (hb : DE X C b tb mb) (hs : PlainIx b := by intro _ _; rfl) {K0 : Fg} (hK0 : X.K = K0 := by rfl) (hK : K0 = C.K := by rfl) : DE X C (.Subscript a b pos) (tOp (rIx K0) ta tb) (mOp ixD ma mb) := by
  subst hK0
  exact (⟨pe_ix ix_seq ha.pe hb.pe hs, sim_op ha.sim hb.sim (by rw [hK]; exact sim_ix)⟩)
end
end DL
/-! the data layer, part 4: built-ins, slices, methods of built-in types over data -/
namespace DL
open PySem L2 PyProof.Rows
def ints? : List D → Option (List Int)
  | [] => some []
  | .int i :: ds => match ints? ds with
    | some ns => some (i :: ns)
    | none => none
  | _ :: _ => none
def bls? : List D → Option (List Bool)
  | [] => some []
  | .bl i :: ds => match bls? ds with
    | some ns => some (i :: ns)
    | none => none
  | _ :: _ => none
theorem ints?_eq : ∀ {ds : List D} {ns : List Int}, ints? ds = some ns → ds = ns.map D.int
  | [], ns, h => by cases h; rfl
  | d :: ds, ns, h => by
    cases d <;> simp only [ints?] at h <;> try cases h
    split at h
    · rename_i ms e
      cases h
      rw [ints?_eq e]; rfl
    · cases h
theorem bls?_eq : ∀ {ds : List D} {ns : List Bool}, bls? ds = some ns → ds = ns.map D.bl
  | [], ns, h => by cases h; rfl
  | d :: ds, ns, h => by
    cases d <;> simp only [bls?] at h <;> try cases h
    split at h
    · rename_i ms e
      cases h
      rw [bls?_eq e]; rfl
    · cases h
theorem ints?_map : ∀ ns : List Int, ints? (ns.map D.int) = some ns
  | [] => rfl
  | n :: ns => by rw [List.map_cons, ints?, ints?_map ns]
theorem bls?_map : ∀ ns : List Bool, bls? (ns.map D.bl) = some ns
  | [] => rfl
  | n :: ns => by rw [List.map_cons, bls?, bls?_map ns]
/-! ### built-ins by values -/
def lenD : List D → (Res → Prop) → Prop
  | [.lst ds], Q => Q (.val (.int ds.length))
  | [.scr ds], Q => Q (.val (.int ds.length))
  | [.tup ds], Q => Q (.val (.int ds.length))
  | [.str z], Q => z.length ≤ 100000 ∧ Q (.val (.int z.length))
  | [.dic kvs], Q => Q (.val (.int kvs.length))
  | _, _ => False
def intD : List D → (Res → Prop) → Prop
  | [.int i], Q => Q (.val (.int i))
  | [.bl b], Q => Q (.val (.int (if b then 1 else 0)))
  | _, _ => False
def absD : List D → (Res → Prop) → Prop
  | [.int i], Q => Q (.val (.int (i.natAbs : Int)))
  | _, _ => False
def minD : List D → (Res → Prop) → Prop
  | [.int i, .int j], Q => Q (.val (.int (min i j)))
  | [.tup ds], Q => ∃ ns, ints? ds = some ns ∧ 0 < ns.length ∧ ∀ m, m ∈ ns → (∀ y, y ∈ ns → m ≤ y) → Q (.val (.int m))
  | [.lst ds], Q => ∃ ns, ints? ds = some ns ∧ 0 < ns.length ∧ ∀ m, m ∈ ns → (∀ y, y ∈ ns → m ≤ y) → Q (.val (.int m))
  | _, _ => False
def maxD : List D → (Res → Prop) → Prop
  | [.int i, .int j], Q => Q (.val (.int (max i j)))
  | [.int i, .int j, .int l], Q => Q (.val (.int (max i (max j l))))
  | [.tup ds], Q => ∃ ns, ints? ds = some ns ∧ 0 < ns.length ∧ ∀ m, m ∈ ns → (∀ y, y ∈ ns → y ≤ m) → Q (.val (.int m))
  | [.lst ds], Q => ∃ ns, ints? ds = some ns ∧ 0 < ns.length ∧ ∀ m, m ∈ ns → (∀ y, y ∈ ns → y ≤ m) → Q (.val (.int m))
  | _, _ => False
def sumD : List D → (Res → Prop) → Prop
  | [.lst ds], Q => ∃ ns, ints? ds = some ns ∧ Q (.val (.int ns.sum))
  | [.tup ds], Q => ∃ ns, ints? ds = some ns ∧ Q (.val (.int ns.sum))
  | _, _ => False
section
variable {prog : Program} {w : World} {A : Around} {E : Value → Shared → Prop} {s : Shared} {t : Addr} {xs : Array (Int × Tok)} {its : List Value} {ns : List Int}
theorem iter_tup {Q : Value → Shared → Prop} (hl : s.heap.IsTuple t (intItems xs))
    (h : ∀ s₂ : Shared, s₂ = { s with heap := s.heap.push { cls := .type "tuple_iterator", data := .fields #[.ref t, .int 0 0] } } →
      (s₂.heap.IsTupleIter s.heap.objs.size t 0 ∧ s₂.heap.IsTuple t (intItems xs)) → (∀ b ∈ [s.heap.objs.size, t], b < s₂.heap.objs.size) → t ≠ s.heap.objs.size → Q (.ref s.heap.objs.size) s₂) :
    wpAny (model prog w) A (pyIter (.ref t)) Q E s := by
  have hlt : t < s.heap.objs.size := by obtain ⟨_, e, _⟩ := hl; exact Heap.lt_size e
  refine wpAny_pyIter_tuple hl (h _ rfl ⟨⟨_, Heap.get?_push_size _ rfl, rfl, rfl⟩, hl.push _⟩ (fun b hb => ?_) (Nat.ne_of_lt hlt))
  show b < (s.heap.push _).objs.size
  rw [Heap.size_push]
  rcases List.mem_cons.mp hb with rfl | hb
  · exact Nat.lt_succ_self _
  · rcases List.mem_cons.mp hb with rfl | hb
    · exact Nat.lt_succ_of_lt hlt
    · cases hb
theorem old_tup {h' : Heap} (hk : ∀ b o, b ∉ [s.heap.objs.size] → (s.heap.push { cls := .type "tuple_iterator", data := .fields #[.ref t, .int 0 0] }).get? b = some o → h'.get? b = some o) :
    ∀ b o, s.heap.get? b = some o → h'.get? b = some o := fun b o e => by
  refine hk b o (fun hm => ?_) (Heap.get?_push_of_some _ e)
  rcases List.mem_cons.mp hm with e1 | hm
  · exact absurd (e1 ▸ Heap.lt_size e) (Nat.lt_irrefl _)
  · cases hm
theorem min_tup {Q : Value → Shared → Prop} (hh : A.handled = none) (hl : s.heap.IsTuple t its.toArray) (hi : PyProof.Rows.IntsAre its ns) (hne : 0 < ns.length)
    (h : ∀ h' tk M t', (∀ b o, s.heap.get? b = some o → h'.get? b = some o) → M ∈ ns → (∀ a, a ∈ ns → M ≤ a) → Q (.int M t') { s with heap := h', toks := tk }) : wpAny (model prog w) A (call (.builtin "min") [.ref t]) Q E s := by
  obtain ⟨xs, e⟩ := hi.allInts.items
  have hn : PySem.numsOf (intItems xs).toList = ns := by rw [← e]; exact hi.numsOf
  rw [PySem.nums_intItems] at hn
  subst hn
  rw [e] at hl
  have hsz : 0 < xs.size := by simpa using hne
  refine call_min_walk (iter_tup hl fun s₂ e st hfp hlI => ?_)
  subst e
  refine ⟨_, _, _, _, _, _, _, rfl, Walks.tuple (A := A.in1) hh _ t hlI (intItems xs), st, hfp, by simpa [intItems] using hsz, CmpOf.ints_lt (numAt xs) (fun _ _ => intItems_at), fun v h' tk hP hk => ?_⟩
  have hv : (intItems xs)[PySem.argBest (fun i j => decide (numAt xs i < numAt xs j)) (xs.size - 1)]? = some v := by simpa [intItems] using hP
  obtain ⟨t', rfl⟩ := intItems_at hv
  obtain ⟨h1, h2⟩ := PySem.argBest_lt (numAt xs) (xs.size - 1)
  refine h h' tk _ t' (old_tup hk) ?_ fun a ha => ?_
  · rw [PySem.numAt_eq]; exact PySem.getD_mem (by rw [List.length_map, Array.length_toList]; omega)
  · obtain ⟨j, hj, rfl⟩ := mem_getD ha
    rw [List.length_map, Array.length_toList] at hj
    rw [← PySem.numAt_eq]; exact h2 j (by omega)
end
def rMinT (K : Fg) : List V → Hp → VK → Prop := fun vs H Q => ∃ (a : Addr) (ns : List Int), vs = [V.ref a] ∧ SqT K H a (ns.map V.int) ∧ 0 < ns.length ∧ ∀ m, m ∈ ns → (∀ y, y ∈ ns → m ≤ y) → Q (.int m) H
theorem cr_minT {X : Cx} (hc : X.calm = true) : CallR X (.builtin "min") (rMinT X.K) := by
  intro pins s σ H vs us Q I r h
  obtain ⟨a, ns, rfl, hs, hne, q⟩ := h
  obtain ⟨its, rv, hl, _⟩ := I.tuple hs
  rw [Vals.ref1 r]
  exact min_tup (I.ok.hd hc) hl rv.ints hne fun h' tk m t' hk h1 h2 => ⟨.int _, H, I.kept hk, ⟨_, rfl⟩, q m h1 h2⟩
def allD : List D → (Res → Prop) → Prop
  | [.lst ds], Q => ∃ ns, bls? ds = some ns ∧ Q (.val (.bl (ns.all id)))
  | _, _ => False
def anyD : List D → (Res → Prop) → Prop
  | [.lst ds], Q => ∃ ns, bls? ds = some ns ∧ Q (.val (.bl (ns.any id)))
  | _, _ => False
def listD : List D → (Res → Prop) → Prop
  | [.lst ds], Q => Q (.fr (.lst ds))
  | [.scr ds], Q => Q (.fr (.lst ds))
  | [.tup ds], Q => Q (.fr (.lst ds))
  | _, _ => False
def tupleD : List D → (Res → Prop) → Prop
  | [.lst ds], Q => Q (.val (.tup ds))
  | [.tup ds], Q => Q (.val (.tup ds))
  | _, _ => False
def divmodD : List D → (Res → Prop) → Prop
  | [.int i, .int j], Q => CDiv i j ∧ Q (.val (.tup [.int (i / j), .int (i % j)]))
  | _, _ => False
section
variable {K : Fg} {O : List Addr} {H : Hp} {x y : V}
theorem B2s.one {vs : List V} {d : D} (h : B2s K O H vs [d]) : ∃ v, vs = [v] ∧ B2 K O H v d := by
  cases h with | cons h t => cases t; exact ⟨_, rfl, h⟩
theorem B2s.two {vs : List V} {d e : D} (h : B2s K O H vs [d, e]) : ∃ v w, vs = [v, w] ∧ B2 K O H v d ∧ B2 K O H w e := by
  cases h with | cons h t => cases t with | cons h' t => cases t; exact ⟨_, _, rfl, h, h'⟩
theorem RepK.length : ∀ {vs : List (Key × V)} {ds : List (Key × D)}, RepK K H vs ds → vs.length = ds.length
  | _, _, .nil => rfl
  | _, _, .cons _ r => by rw [List.length_cons, List.length_cons, RepK.length r]
end
section
variable {X : Cx} {K : Fg}
def uLen (K : Fg) : List V → Hp → VK → Prop := fun xs H Q => (∃ x n, xs = [x] ∧ LenV K x H n ∧ Q (.int n) H) ∨ ∃ a kvs, xs = [V.ref a] ∧ H a = some (.dK kvs) ∧ Q (.int kvs.length) H
theorem cr_uLen : CallR X (.builtin "len") (uLen X.K) := call_len.or call_lenD
theorem sim_len : SimRC K (uLen K) lenD := fun O H vs ds Qd Q h q k => by
  unfold lenD at q
  split at q
  · obtain ⟨v, rfl, hb⟩ := h.one
    obtain ⟨p, vs, rfl, e, r⟩ := hb.lst
    exact .inl ⟨_, vs.length, rfl, .inl ⟨vs, SqL.of e, rfl⟩, k.val _ _ (by rw [r.length]; exact .int _) q⟩
  · obtain ⟨v, rfl, hb⟩ := h.one
    obtain ⟨p, vs, rfl, e, r⟩ := hb.scr
    exact .inl ⟨_, vs.length, rfl, .inl ⟨vs, e, rfl⟩, k.val _ _ (by rw [r.length]; exact .int _) q⟩
  · obtain ⟨v, rfl, hb⟩ := h.one
    obtain ⟨p, vs, rfl, e, r⟩ := hb.tup
    exact .inl ⟨_, vs.length, rfl, .inr ⟨vs, SqT.of e, rfl⟩, k.val _ _ (by rw [r.length]; exact .int _) q⟩
  · obtain ⟨v, rfl, hb⟩ := h.one
    obtain rfl := hb.str
    exact .inl ⟨_, _, rfl, ⟨sz5 q.1, rfl⟩, k.val _ _ (.int _) q.2⟩
  · obtain ⟨v, rfl, hb⟩ := h.one
    obtain ⟨p, vs, rfl, e, r⟩ := hb.dic
    exact .inr ⟨p, vs, rfl, e, k.val _ _ (by rw [r.length]; exact .int _) q⟩
  · exact q.elim
def uInt : List V → Hp → VK → Prop := fun xs H Q => (∃ i, xs = [.int i] ∧ Q (.int i) H) ∨ ∃ k, xs = [.bl k] ∧ Q (.int (if k then 1 else 0)) H
theorem sim_int : SimRC K uInt intD := fun O H vs ds Qd Q h q k => by
  unfold intD at q
  split at q
  · obtain ⟨v, rfl, hb⟩ := h.one
    obtain rfl := hb.int
    exact .inl ⟨_, rfl, k.val _ _ (.int _) q⟩
  · obtain ⟨v, rfl, hb⟩ := h.one
    obtain rfl := hb.bl
    exact .inr ⟨_, rfl, k.val _ _ (.int _) q⟩
  · exact q.elim
def uAbs : List V → Hp → VK → Prop := fun xs H Q => ∃ i, xs = [.int i] ∧ Q (.int (if i < 0 then -i else i)) H
theorem sim_abs : SimRC K uAbs absD := fun O H vs ds Qd Q h q k => by
  unfold absD at q
  split at q
  · rename_i i
    obtain ⟨v, rfl, hb⟩ := h.one
    obtain rfl := hb.int
    refine ⟨_, rfl, k.val _ _ ?_ q⟩
    rw [show ((i.natAbs : Nat) : Int) = if i < 0 then -i else i by split <;> omega]
    exact .int _
  · exact q.elim
def uMin (K : Fg) : List V → Hp → VK → Prop := fun xs H Q => (∃ i j, xs = [.int i, .int j] ∧ Q (.int (if j < i then j else i)) H) ∨ (rMin K xs H Q ∨ rMinT K xs H Q)
theorem cr_uMin (hc : X.calm = true) : CallR X (.builtin "min") (uMin X.K) := (call_min2 hc).or ((cr_min hc).or (cr_minT hc))
theorem sim_min : SimRC K (uMin K) minD := fun O H vs ds Qd Q h q k => by
  unfold minD at q
  split at q
  · rename_i i j
    obtain ⟨v, w, rfl, h1, h2⟩ := h.two
    obtain rfl := h1.int
    obtain rfl := h2.int
    refine .inl ⟨_, _, rfl, k.val _ _ ?_ q⟩
    rw [show min i j = if j < i then j else i by split <;> omega]
    exact .int _
  · obtain ⟨v, rfl, hb⟩ := h.one
    obtain ⟨p, vs, rfl, e, r⟩ := hb.tup
    obtain ⟨ns, e1, h0, q⟩ := q
    obtain rfl := ints?_eq e1
    obtain rfl := r.ints
    exact .inr (.inr ⟨p, ns, rfl, SqT.of e, h0, fun m h1 h2 => k.val _ _ (.int _) (q m h1 h2)⟩)
  · obtain ⟨v, rfl, hb⟩ := h.one
    obtain ⟨p, vs, rfl, e, r⟩ := hb.lst
    obtain ⟨ns, e1, h0, q⟩ := q
    obtain rfl := ints?_eq e1
    obtain rfl := r.ints
    exact .inr (.inl ⟨p, ns, rfl, SqL.of e, h0, fun m h1 h2 => k.val _ _ (.int _) (q m h1 h2)⟩)
  · exact q.elim
theorem sim_all : SimRC K (rAll K) allD := fun O H vs ds Qd Q h q k => by
  unfold allD at q
  split at q
  · obtain ⟨v, rfl, hb⟩ := h.one
    obtain ⟨p, vs, rfl, e, r⟩ := hb.lst
    obtain ⟨ns, e1, q⟩ := q
    obtain rfl := bls?_eq e1
    obtain rfl := r.bls
    exact ⟨p, ns, rfl, SqL.of e, k.val _ _ (.bl _) q⟩
  · exact q.elim
def uList (K : Fg) : List V → Hp → VK → Prop := fun xs H Q => ∃ p ys, xs = [.ref p] ∧ (SqL K H p ys ∨ SqT K H p ys) ∧ ∀ l, H l = none → Q (.ref l) (upd H l (.lst ys))
theorem sim_list : SimRC K (uList K) listD := fun O H vs ds Qd Q h q k => by
  unfold listD at q
  split at q
  · obtain ⟨v, rfl, hb⟩ := h.one
    obtain ⟨p, vs, rfl, e, r⟩ := hb.lst
    exact ⟨p, vs, rfl, .inl (SqL.of e), fun l hl => k.new l _ _ hl (.lst r) q⟩
  · obtain ⟨v, rfl, hb⟩ := h.one
    obtain ⟨p, vs, rfl, e, r⟩ := hb.scr
    exact ⟨p, vs, rfl, .inl e, fun l hl => k.new l _ _ hl (.lst r) q⟩
  · obtain ⟨v, rfl, hb⟩ := h.one
    obtain ⟨p, vs, rfl, e, r⟩ := hb.tup
    exact ⟨p, vs, rfl, .inr (SqT.of e), fun l hl => k.new l _ _ hl (.lst r) q⟩
  · exact q.elim
def uTuple (K : Fg) : List V → Hp → VK → Prop := fun xs H Q => ∃ p ys, xs = [.ref p] ∧ ((SqL K H p ys ∧ ∀ l, H l = none → Q (.ref l) (upd H l (.tup ys))) ∨ (SqT K H p ys ∧ Q (.ref p) H))
theorem sim_tuple : SimRC K (uTuple K) tupleD := fun O H vs ds Qd Q h q k => by
  unfold tupleD at q
  split at q
  · obtain ⟨v, rfl, hb⟩ := h.one
    obtain ⟨p, vs, rfl, e, r⟩ := hb.lst
    exact ⟨p, vs, rfl, .inl ⟨SqL.of e, fun l hl => k.newT l _ _ hl r q⟩⟩
  · obtain ⟨v, rfl, hb⟩ := h.one
    rcases hb with h1 | ⟨l, o, _, _, h1⟩
    · cases h1 with
      | tup h r => exact ⟨_, _, rfl, .inr ⟨SqT.of (hide_same _ _ (by assumption)), k.val _ _ (.tup (by assumption) r) q⟩⟩
    · cases h1
  · exact q.elim
end
/-! ### slices -/
def DOo (X : Cx) (C : Ctx) (e : Option Expr) (t : TO) (m : Env → (Option Int → Env → Prop) → Prop) : Prop := PO X e t ∧ ∀ (Γ : Env) (O : List Addr) (σ : L2.St) (H : Hp) (Qd : Option Int → Env → Prop) (Q : Option Int → Hp → Prop), RelO C Γ O σ H → m Γ Qd →
  (∀ b Γ' H', RelO C Γ' O σ H' → Same (hide O H) (hide O H') → Qd b Γ' → Q b H') → t σ H Q
def mNoP : Env → (Option Int → Env → Prop) → Prop := fun Γ Q => Q none Γ
def mPart (ma : DTE) : Env → (Option Int → Env → Prop) → Prop := fun Γ Q => ma Γ fun r Γ1 => ∃ i, r = .val (.int i) ∧ Q (some i) Γ1
def cutD (xs : List D) (lo hi : Option Int) : List D := (xs.drop (HT.sIx xs.length 0 lo)).take (HT.sIx xs.length xs.length hi - HT.sIx xs.length 0 lo)
theorem Reps.cut {K : Fg} {H : Hp} {vs : List V} {ds : List D} (r : Reps K H vs ds) (lo hi : Option Int) : Reps K H (cutV vs lo hi) (cutD ds lo hi) := by
  unfold cutV cutD
  rw [r.length]
  exact (r.drop _).take _
def slD : D → Option Int → Option Int → (Res → Prop) → Prop
  | .lst ds, lo, hi, Q => Q (.fr (.lst (cutD ds lo hi)))
  | .scr ds, lo, hi, Q => Q (.fr (.lst (cutD ds lo hi)))
  | .str z, lo, hi, Q => z.length ≤ 100000 ∧ Q (.val (.str (cutS z lo hi)))
  | .tup ds, lo, hi, Q => Q (.val (.tup (cutD ds lo hi)))
  | _, _, _, _ => False
theorem cutD_whole {ds : List D} {lo hi : Option Int} (h : HT.sIx ds.length 0 lo = 0 ∧ HT.sIx ds.length ds.length hi = ds.length) : cutD ds lo hi = ds := by
  unfold cutD
  rw [h.1, h.2, List.drop_zero, Nat.sub_zero, List.take_length]
def mSl (f : D → Option Int → Option Int → (Res → Prop) → Prop) (ma : DTE) (ml mh : Env → (Option Int → Env → Prop) → Prop) : DTE := fun Γ Q => ma Γ fun r Γ1 => ml Γ1 fun lo Γ2 => mh Γ2 fun hi Γ3 => ∃ d, rd Γ3 r = some d ∧ f d lo hi fun r => Q r Γ3
section
variable {X : Cx} {C : Ctx} {ta : TE} {ma : DTE} {a e : Expr} {pos p2 : Pos}
theorem do_none : DOo X C none tNoPart mNoP := ⟨po_none, fun Γ O σ H Qd Q R h k => k none Γ H R (L2.Same.refl _) h⟩
theorem do_some (h : DE X C e ta ma) : DOo X C (some e) (tPart ta) (mPart ma) := ⟨po_some h.pe, fun Γ O σ H Qd Q R hm k => h.sim Γ O σ H _ _ R hm fun r Γ1 v H1 R1 e1 q1 => by
  obtain ⟨i, rfl, q⟩ := q1
  exact ⟨i, (show B2 C.K O H1 v (.int i) from .inl R1.2).int, k (some i) Γ1 H1 R1.rel e1.1 q⟩⟩
def uSl (K : Fg) : V → Option Int → Option Int → Hp → VK → Prop := fun x lo hi H Q => rSlL K x lo hi H Q ∨ (rSlS x lo hi H Q ∨ rSlA K x lo hi H Q)
theorem sl_u : SlR X (uSl X.K) := sl_list.or (sl_str.or sl_tupA)
theorem de_sl {lo hi : Option Expr} {tl th : TO} {ml mh : Env → (Option Int → Env → Prop) → Prop} (he : DE X C a ta ma) (hl : DOo X C lo tl ml) (hh : DOo X C hi th mh) {K0 : Fg} (hK0 : X.K = K0 := by rfl) (hK : K0 = C.K := by rfl) :
    DE X C (.Subscript a (.Slice lo hi none p2) pos) (tSl (uSl K0) ta tl th) (mSl slD ma ml mh) := by
  subst hK0
  refine ⟨pe_slice sl_u he.pe hl.1 hh.1, fun Γ O σ H Qd Q R h k => ?_⟩
  refine he.sim Γ O σ H _ _ R h fun r Γ1 v H1 R1 e1 q1 => ?_
  refine hl.2 Γ1 O σ H1 _ _ R1.rel q1 fun i1 Γ2 H2 R2 e2 q2 => ?_
  refine hh.2 Γ2 O σ H2 _ _ R2 q2 fun i2 Γ3 H3 R3 e3 q3 => ?_
  obtain ⟨d, hd, q⟩ := q3
  have b := (R1.pend.mono (L2.Same.trans e2 e3)).b2 R3 hd
  have o := outs_of R3 (L2.Same.trans e1.1 (L2.Same.trans e2 e3)) k
  unfold slD at q
  split at q
  · obtain ⟨p, vs, rfl, e, r⟩ := b.lst
    exact .inl ⟨p, vs, rfl, SqL.of e, fun p hp => o.new p _ _ hp (.lst (r.cut _ _)) q⟩
  · obtain ⟨p, vs, rfl, e, r⟩ := b.scr
    rw [hK]
    exact .inl ⟨p, vs, rfl, e, fun p hp => o.new p _ _ hp (.lst (r.cut _ _)) q⟩
  · obtain rfl := b.str
    exact .inr (.inl ⟨_, rfl, sz5 q.1, o.val _ _ (.str _) q.2⟩)
  · have hR : ∀ ds, B2 C.K O H3 v (.tup ds) → Rep C.K (hide O H3) v (.tup ds) := fun ds h => by
      rcases h with h | ⟨l, o, _, _, ho⟩
      · exact h
      · cases ho
    have hb := hR _ b
    obtain ⟨p, vs, rfl, e, r⟩ := b.tup
    rw [hK]
    refine .inr (.inr ⟨p, vs, rfl, SqT.of e, fun hw => ?_, fun _ p hp => o.newT p _ _ hp (r.cut _ _) q⟩)
    rw [r.length] at hw
    rw [cutD_whole hw] at q
    exact o.val _ _ hb q
  · exact q.elim
/-- xs[::-1] -/
def mRevL (ma : DTE) : DTE := fun Γ Q => ma Γ fun r Γ1 => ∃ ds, rd Γ1 r = some (.lst ds) ∧ Q (.fr (.lst ds.reverse)) Γ1
/-! ### built-ins by name -/
variable {x : Str} {p : Pos} {b : Expr} {tb : TE} {mb : DTE} {tr : TA} {mr : DTA} {es : List Expr}
theorem de_abs (hg : Gl X "abs") (hm : X.mg "abs" = none) (ha : DA X C (e :: es) tr mr)
    (he : starEach (e :: es) X.env = (false, eval e X.env) :: starEach es X.env := by rfl) (hpl : (backTo pos (starEach es X.env)).any (·.1) = false := by rfl) :
    DE X C (.Call (.Name "abs" p) (e :: es) [] pos) (tCB uAbs tr) (mCB absD mr) := de_cb call_abs sim_abs hg hm (by decide +kernel) ha (he := he) (hpl := hpl)
theorem de_len (hg : Gl X "len") (hm : X.mg "len" = none) (ha : DA X C (e :: es) tr mr) {K0 : Fg} (hK0 : X.K = K0 := by rfl) (hK : K0 = C.K := by rfl)
    (he : starEach (e :: es) X.env = (false, eval e X.env) :: starEach es X.env := by rfl) (hpl : (backTo pos (starEach es X.env)).any (·.1) = false := by rfl) :
    DE X C (.Call (.Name "len" p) (e :: es) [] pos) (tCB (uLen K0) tr) (mCB lenD mr) := by
  subst hK0
  exact (de_cb cr_uLen (by rw [hK]; exact sim_len) hg hm (by decide +kernel) ha (he := he) (hpl := hpl))
theorem de_intc (hg : Gl X "int") (hm : X.mg "int" = none) (ha : DA X C (e :: es) tr mr)
    (he : starEach (e :: es) X.env = (false, eval e X.env) :: starEach es X.env := by rfl) (hpl : (backTo pos (starEach es X.env)).any (·.1) = false := by rfl) :
    DE X C (.Call (.Name "int" p) (e :: es) [] pos) (tCB uInt tr) (mCB intD mr) := de_ct call_int1 sim_int hg hm (by decide +kernel) ha (he := he) (hpl := hpl)
theorem de_min (hc : X.calm = true) (hg : Gl X "min") (hm : X.mg "min" = none) (ha : DA X C (e :: es) tr mr) {K0 : Fg} (hK0 : X.K = K0 := by rfl) (hK : K0 = C.K := by rfl)
    (he : starEach (e :: es) X.env = (false, eval e X.env) :: starEach es X.env := by rfl) (hpl : (backTo pos (starEach es X.env)).any (·.1) = false := by rfl) :
    DE X C (.Call (.Name "min" p) (e :: es) [] pos) (tCB (uMin K0) tr) (mCB minD mr) := by
  subst hK0
  exact (de_cb (cr_uMin hc) (by rw [hK]; exact sim_min) hg hm (by decide +kernel) ha (he := he) (hpl := hpl))
theorem de_all (hc : X.calm = true) (hg : Gl X "all") (hm : X.mg "all" = none) (ha : DA X C (e :: es) tr mr) {K0 : Fg} (hK0 : X.K = K0 := by rfl) (hK : K0 = C.K := by rfl)
    (he : starEach (e :: es) X.env = (false, eval e X.env) :: starEach es X.env := by rfl) (hpl : (backTo pos (starEach es X.env)).any (·.1) = false := by rfl) :
    DE X C (.Call (.Name "all" p) (e :: es) [] pos) (tCB (rAll K0) tr) (mCB allD mr) := by
  subst hK0
  exact (de_cb (cr_all hc) (by rw [hK]; exact sim_all) hg hm (by decide +kernel) ha (he := he) (hpl := hpl))
theorem de_list (hg : Gl X "list") (hm : X.mg "list" = none) (ha : DA X C (e :: es) tr mr) {K0 : Fg} (hK0 : X.K = K0 := by rfl) (hK : K0 = C.K := by rfl)
    (he : starEach (e :: es) X.env = (false, eval e X.env) :: starEach es X.env := by rfl) (hpl : (backTo pos (starEach es X.env)).any (·.1) = false := by rfl) :
    DE X C (.Call (.Name "list" p) (e :: es) [] pos) (tCB (uList K0) tr) (mCB listD mr) := by
  subst hK0
  exact (de_ct call_list_of (by rw [hK]; exact sim_list) hg hm (by decide +kernel) ha (he := he) (hpl := hpl))
theorem de_tuple (hg : Gl X "tuple") (hm : X.mg "tuple" = none) (ha : DA X C (e :: es) tr mr) {K0 : Fg} (hK0 : X.K = K0 := by rfl) (hK : K0 = C.K := by rfl)
    (he : starEach (e :: es) X.env = (false, eval e X.env) :: starEach es X.env := by rfl) (hpl : (backTo pos (starEach es X.env)).any (·.1) = false := by rfl) :
    DE X C (.Call (.Name "tuple" p) (e :: es) [] pos) (tCB (uTuple K0) tr) (mCB tupleD mr) := by
  subst hK0
  exact (de_ct call_tuple_of (by rw [hK]; exact sim_tuple) hg hm (by decide +kernel) ha (he := he) (hpl := hpl))
/-- list(range(b)), list(range(a, b)) -/
def rgD (a b : Int) : List D := (List.range (b - a).toNat).map fun i => D.int (a + (i : Nat))
def mRg1 (ma : DTE) : Env → (Int → Int → Env → Prop) → Prop := fun Γ Q => ma Γ fun r Γ1 => ∃ n, r = .val (.int n) ∧ Q 0 n Γ1
def mRg2 (ma mb : DTE) : Env → (Int → Int → Env → Prop) → Prop := fun Γ Q => ma Γ fun r Γ1 => mb Γ1 fun r2 Γ2 => ∃ i j, r = .val (.int i) ∧ r2 = .val (.int j) ∧ Q i j Γ2
def mLRg (mg : Env → (Int → Int → Env → Prop) → Prop) : DTE := fun Γ Q => mg Γ fun a b Γ1 => RgOk a b ∧ Q (.fr (.lst (rgD a b))) Γ1
def mTRg (mg : Env → (Int → Int → Env → Prop) → Prop) : DTE := fun Γ Q => mg Γ fun a b Γ1 => RgOk a b ∧ Q (.val (.tup (rgD a b))) Γ1
end
end DL
/-! the data layer, part 5: what is walked, targets, comprehensions, statements -/
namespace DL
open PySem L2
/-! ### what a loop walks -/
/-- n turns that give the items; g: what must hold of the heap meanwhile -/
structure ItD (K : Fg) (J : It) (n : Nat) (g : List Addr → Hp → Prop) (items : List D) : Prop where
  len : items.length = n
  go : ∀ i O H, g O H → i < n → J.go i H
  stop : ∀ O H, g O H → J.stop n H
  yld : ∀ i O H x H', AlT O H → g O H → i < n → J.yld i H x H' → ∃ d, items[i]? = some d ∧ ((H' = H ∧ Rep K (hide O H) x d) ∨ ∃ p vs ds, x = .ref p ∧ H p = none ∧ H' = upd H p (.tup vs) ∧ Reps K (hide O H) vs ds ∧ d = .tup ds)
/-- where the items come from: nowhere; a shared datum; a place -/
inductive Src where
  | no
  | val (d : D)
  | pl (i : Nat) (d : D)
  | v2 (a b : D)
  | hd (a : Addr) (d : D)
def SrcOk (C : Ctx) (Γ : Env) (O : List Addr) (σ : St) (H : Hp) (g : List Addr → Hp → Prop) : Src → Prop
  | .no => ∀ O' H', g O' H'
  | .val d => ∃ v, Rep C.K (hide O H) v d ∧ ∀ O' H', Rep C.K (hide O' H') v d → g O' H'
  | .pl i d => ∃ v, σ[i]? = some (some v) ∧ rd Γ (.pl i) = some d ∧ ∀ O' H', B2 C.K O' H' v d → g O' H'
  | .v2 a b => ∃ v w, Rep C.K (hide O H) v a ∧ Rep C.K (hide O H) w b ∧ ∀ O' H', Rep C.K (hide O' H') v a → Rep C.K (hide O' H') w b → g O' H'
  | .hd a d => stGet Γ a = some d ∧ ∀ O' H', B2 C.K O' H' (.ref a) d → g O' H'
abbrev DTI := Env → (Src → List D → Env → Prop) → Prop
def SimI (C : Ctx) (w : TI) (m : DTI) : Prop := ∀ (Γ : Env) (O : List Addr) (σ : St) (H : Hp) (Qd : Src → List D → Env → Prop) (R : It → Hp → Prop), RelO C Γ O σ H → m Γ Qd →
  (∀ src items Γ' J H' n g, RelO C Γ' O σ H' → Same (hide O H) (hide O H') → ItD C.K J n g items → SrcOk C Γ' O σ H' g src → Qd src items Γ' → R J H') → w σ H R
structure DI (X : Cx) (C : Ctx) (tg e : Expr) (w : TI) (m : DTI) : Prop where
  pi : PI X tg e w
  sim : SimI C w m
def srcOf (d : D) : Res → Src
  | .pl i => .pl i d
  | .hd a => .hd a d
  | _ => .val d
def itemsOf : D → Option (List D)
  | .lst ds => some ds
  | .tup ds => some ds
  | _ => none
/-- for .. in e, e a list or a tuple -/
def mSeq (ma : DTE) : DTI := fun Γ Q => ma Γ fun r Γ1 => ∃ d ds, rd Γ1 r = some d ∧ itemsOf d = some ds ∧ Q (srcOf d r) ds Γ1
def iSeq (K : Fg) (tl : TE) : TI := fun σ H R => tl σ H fun x H1 => ∃ a, x = .ref a ∧ (((∃ xs, SqL K H1 a xs) ∧ R (Itl K a) H1) ∨ ((∃ xs, SqT K H1 a xs) ∧ R (Itt K a) H1))
section
variable {X : Cx} {C : Ctx} {tg l : Expr} {tl : TE} {ml : DTE} {pos p : Pos}
theorem pi_seq (hl : PE X l tl) : PI X tg l (iSeq X.K tl) := by
  refine ⟨fun pins s σ H R I h => ?_⟩
  refine thn (hl.run pins s σ H _ I h) fun v s1 ⟨x, H1, I1, r1, q1⟩ => ?_
  obtain ⟨a, e, q⟩ := q1
  subst e
  cases r1
  have fin : ∀ b ∈ [s1.heap.objs.size], FpOk X pins H1 b := fun b hb => by
    have e : b = s1.heap.objs.size := by simpa using hb
    subst e
    exact I1.fpOk (Nat.le_refl _) (I1.hok.fresh (Nat.le_refl _))
  rcases q with ⟨⟨xs, hq⟩, q⟩ | ⟨⟨xs, hq⟩, q⟩
  · obtain ⟨its, rv, pl, hz⟩ := I1.list hq
    exact wpAny_pyIter_list pl.isList ⟨_, [s1.heap.objs.size], _, _, H1, rfl, I1.kept (t' := s1.toks) fun b o e => Heap.get?_push_of_some _ e, turn_list a _, ⟨_, Heap.get?_push_size _ rfl, rfl, rfl⟩, fin, q⟩
  · obtain ⟨its, rv, pl, hz⟩ := I1.tuple hq
    exact wpAny_pyIter_tuple (show s1.heap.IsTuple a its.toArray from pl) ⟨_, [s1.heap.objs.size], _, _, H1, rfl, I1.kept (t' := s1.toks) fun b o e => Heap.get?_push_of_some _ e, turn_tuple a _, ⟨_, Heap.get?_push_size _ rfl, rfl, rfl⟩, fin, q⟩
theorem itd_list {K : Fg} {a : Addr} {ds : List D} : ItD K (Itl K a) ds.length (fun O H => B2 K O H (.ref a) (.lst ds)) ds where
  len := rfl
  go := fun i O H h hi => by
    obtain ⟨a', vs, e, h1, r⟩ := h.lst
    cases e
    have : i < vs.length := by rw [r.length]; exact hi
    exact ⟨vs, vs[i], SqL.of h1, by simp [this]⟩
  stop := fun O H h => by
    obtain ⟨a', vs, e, h1, r⟩ := h.lst
    cases e
    exact ⟨vs, SqL.of h1, by rw [r.length]; exact Nat.le_refl _⟩
  yld := fun i O H x H' _ h hi y => by
    obtain ⟨a', vs, e, h1, r⟩ := h.lst
    cases e
    obtain ⟨e, y⟩ := y
    obtain ⟨d, hd, hr⟩ := r.getV (y vs (SqL.of h1))
    exact ⟨d, hd, .inl ⟨e, hr⟩⟩
theorem itd_tup {K : Fg} {a : Addr} {ds : List D} : ItD K (Itt K a) ds.length (fun O H => B2 K O H (.ref a) (.tup ds)) ds where
  len := rfl
  go := fun i O H h hi => by
    obtain ⟨a', vs, e, h1, r⟩ := h.tup
    cases e
    have : i < vs.length := by rw [r.length]; exact hi
    exact ⟨vs, vs[i], SqT.of h1, by simp [this]⟩
  stop := fun O H h => by
    obtain ⟨a', vs, e, h1, r⟩ := h.tup
    cases e
    exact ⟨vs, SqT.of h1, by rw [r.length]; exact Nat.le_refl _⟩
  yld := fun i O H x H' _ h hi y => by
    obtain ⟨a', vs, e, h1, r⟩ := h.tup
    cases e
    obtain ⟨e, y⟩ := y
    obtain ⟨d, hd, hr⟩ := r.getV (y vs (SqT.of h1))
    exact ⟨d, hd, .inl ⟨e, hr⟩⟩
theorem src_of {C : Ctx} {Γ : Env} {O : List Addr} {σ : St} {H : Hp} {v : V} {d : D} {r : Res} {g : List Addr → Hp → Prop} (R : ROk C Γ O σ H v r) (hd : rd Γ r = some d) (hg : ∀ O' H', B2 C.K O' H' v d → g O' H') : SrcOk C Γ O σ H g (srcOf d r) := by
  cases r with
  | val d' => cases hd; exact ⟨v, R.2, fun O' H' h => hg O' H' (.inl h)⟩
  | fr d' => cases hd; exact ⟨v, R.2.rep, fun O' H' h => hg O' H' (.inl h)⟩
  | np a ds => cases hd; exact ⟨v, R.2.rep R.1, fun O' H' h => hg O' H' (.inl h)⟩
  | hd a =>
    have e : v = .ref a := R.2
    subst e
    exact ⟨hd, hg⟩
  | pl i => exact ⟨v, R.2, hd, hg⟩
theorem di_seq (h : DE X C l tl ml) {K0 : Fg} (hK0 : X.K = K0 := by rfl) (hK : K0 = C.K := by rfl) : DI X C tg l (iSeq K0 tl) (mSeq ml) := by
  subst hK0
  refine ⟨pi_seq h.pe, fun Γ O σ H Qd R hR hm k => ?_⟩
  refine h.sim Γ O σ H _ _ hR hm fun r Γ1 v H1 R1 e1 q1 => ?_
  obtain ⟨d, ds, hd, hi, q⟩ := q1
  have b := R1.pend.b2 R1.rel hd
  unfold itemsOf at hi
  split at hi
  · cases hi
    obtain ⟨a, vs, rfl, e, _⟩ := b.lst
    exact ⟨a, rfl, .inl ⟨⟨vs, SqL.of e⟩, by rw [hK]; exact k _ _ Γ1 _ H1 _ _ R1.rel e1.1 itd_list (src_of R1 hd fun _ _ h => h) q⟩⟩
  · cases hi
    obtain ⟨a, vs, rfl, e, _⟩ := b.tup
    exact ⟨a, rfl, .inr ⟨⟨vs, SqT.of e⟩, by rw [hK]; exact k _ _ Γ1 _ H1 _ _ R1.rel e1.1 itd_tup (src_of R1 hd fun _ _ h => h) q⟩⟩
  · cases hi
/-- range -/
def rngD (lo : Int) (n : Nat) : List D := (List.range n).map fun i => D.int (lo + (i : Nat))
theorem rngD_get {lo : Int} {n i : Nat} (h : i < n) : (rngD lo n)[i]? = some (.int (lo + i)) := by
  unfold rngD
  rw [List.getElem?_map, List.getElem?_range h]; rfl
theorem itd_rng {K : Fg} {lo : Int} {n : Nat} : ItD K (Itr lo n) n (fun _ _ => True) (rngD lo n) where
  len := by unfold rngD; rw [List.length_map, List.length_range]
  go := fun i O H _ hi => hi
  stop := fun O H _ => Nat.le_refl _
  yld := fun i O H x H' _ _ hi y => by
    obtain ⟨e, rfl⟩ := y
    exact ⟨_, rngD_get hi, .inl ⟨e, .int _⟩⟩
def mRng1 (ma : DTA) : DTI := fun Γ Q => ma Γ fun rs Γ1 => ∃ j : Int, rs = [.val (.int j)] ∧ (-(2 ^ 62) ≤ j ∧ j < 2 ^ 62) ∧ Q .no (rngD 0 j.toNat) Γ1
def mRng2 (ma : DTA) : DTI := fun Γ Q => ma Γ fun rs Γ1 => ∃ i j : Int, rs = [.val (.int i), .val (.int j)] ∧ (-(2 ^ 62) ≤ i ∧ i < 2 ^ 62 ∧ -(2 ^ 62) ≤ j ∧ j < 2 ^ 62) ∧ Q .no (rngD i (j - i).toNat) Γ1
theorem pend_int {K : Fg} {O : List Addr} {σ : St} {H : Hp} {v : V} {i : Int} (h : Pend K O σ H v (.val (.int i))) : v = .int i := (show B2 K O H v (.int i) from .inl h).int
theorem di_rng1 {a : Expr} {ta : TA} {ma : DTA} (hg : Gl X "range") (hm : X.mg "range" = none) (ha : DA X C [a] ta ma) (hs : starEach [a] X.env = [(false, eval a X.env)] := by rfl) : DI X C tg (.Call (.Name "range" p) [a] [] pos) (iRng1 ta) (mRng1 ma) :=
  ⟨pi_range1 hg hm ha.pa hs, fun Γ O σ H Qd R hR hm k => ha.sim Γ O σ H _ _ hR hm fun rs Γ1 vs H1 R1 p1 e1 q1 => by
    obtain ⟨j, rfl, ⟨h1, h2⟩, q⟩ := q1
    cases p1 with
    | cons a t =>
      cases t
      exact ⟨j, by rw [pend_int a], h1, h2, k .no _ Γ1 _ H1 _ _ R1 e1 itd_rng (fun _ _ => trivial) q⟩⟩
end
/-! ### targets -/
abbrev DTG := D → Env → (Env → Prop) → Prop
abbrev DTGs := List D → Env → (Env → Prop) → Prop
def SimG (C : Ctx) (g : TG) (m : DTG) : Prop := ∀ (Γ : Env) (O : List Addr) (σ : St) (H : Hp) (v : V) (d : D) (Qd : Env → Prop) (Q : St → Hp → Prop), RelO C Γ O σ H → Rep C.K (hide O H) v d → m d Γ Qd →
  (∀ Γ' σ' H', RelO C Γ' O σ' H' → Same (hide O H) (hide O H') → Qd Γ' → Q σ' H') → g v σ H Q
structure DG (X : Cx) (C : Ctx) (e : Expr) (g : TG) (m : DTG) : Prop where
  pg : PG X e g
  sim : SimG C g m
def freeB (Γ : Env) (i : Nat) : Bool := match Γ[i]? with
  | some (.io _) => false
  | some (.bo _) => false
  | some (.pn true _) => false
  | _ => true
theorem freeB_of {Γ : Env} {i : Nat} (h : freeB Γ i = true) : Free Γ i := by
  unfold freeB at h
  refine ⟨fun d e => ?_, fun d e => ?_, fun P e => ?_⟩ <;> rw [e] at h <;> cases h
def mgName (i : Nat) : DTG := fun d Γ Q => freeB Γ i = true ∧ Q (Γ.set i (.sh d))
def mgNil : DTGs := fun ds Γ Q => ds = [] ∧ Q Γ
def mgCons (m : DTG) (ms : DTGs) : DTGs := fun ds Γ Q => ∃ d r, ds = d :: r ∧ m d Γ fun Γ1 => ms r Γ1 Q
def mgTup (n : Nat) (ms : DTGs) : DTG := fun d Γ Q => ∃ ds, d = .tup ds ∧ ds.length = n ∧ ms ds Γ Q
/-- x[i] = d, x a place -/
def setC (Γ : Env) (i : Nat) (d : D) : Option Env := match Γ[i]? with
  | some (.ow _) => some (Γ.set i (.ow d))
  | some (.io _) => some (Γ.set i (.io d))
  | _ => none
def putK (k : Key) (d : D) : List (Key × D) → List (Key × D)
  | [] => [(k, d)]
  | (j, e) :: r => if j = k then (j, d) :: r else (j, e) :: putK k d r
def stD : D → D → D → (D → Prop) → Prop
  | .lst ds, .int k, x, Q => ∃ j, ixN ds.length k = some j ∧ Q (.lst (ds.set j x))
  | _, _, _, _ => False
def mgSub (mo mi : DTE) (f : D → D → D → (D → Prop) → Prop) : DTG := fun d Γ Q => mo Γ fun ro Γ1 => mi Γ1 fun ri Γ2 => ∃ i c k, ro = .pl i ∧ cont Γ2[i]? = some c ∧ rd Γ2 ri = some k ∧ f c k d fun c' => ∃ Γ3, setC Γ2 i c' = some Γ3 ∧ Q Γ3
section
variable {X : Cx} {C : Ctx} {pos : Pos} {g : TG} {m : DTG}
theorem sim_gName (i : Nat) : SimG C (gName i) (mgName i) := fun Γ O σ H v d Qd Q R r h k => k _ _ H (R.setSh (freeB_of h.1) r) (L2.Same.refl _) h.2
theorem set_relO {Γ Γ' : Env} {O : List Addr} {σ : St} {H : Hp} {i : Nat} {l : Addr} {d : D} {o : HO} (R : RelO C Γ O σ H) (hs : setC Γ i d = some Γ') (hl : σ[i]? = some (some (.ref l))) (ho : OwnOk C.K (hide O H) o d) : RelO C Γ' O σ (upd H l o) ∧ Same (hide O H) (hide O (upd H l o)) := by
  unfold setC at hs
  split at hs
  · rename_i d0 e
    cases hs
    have hO : l ∈ O := R.mutIn (.inl ⟨⟨d0, .inl e⟩, hl⟩)
    refine ⟨R.mut e (.inl ⟨rfl, d, rfl⟩) hl fun d' h => ?_, by rw [hide_mut hO (R.nr hO) ho.nr]; exact L2.Same.refl _⟩
    rcases h with h | h <;> cases h; exact ho
  · rename_i d0 e
    cases hs
    have hO : l ∈ O := R.mutIn (.inl ⟨⟨d0, .inr e⟩, hl⟩)
    refine ⟨R.mut e (.inr ⟨rfl, d, rfl⟩) hl fun d' h => ?_, by rw [hide_mut hO (R.nr hO) ho.nr]; exact L2.Same.refl _⟩
    rcases h with h | h <;> cases h; exact ho
  · cases hs
theorem place_at {Γ Γ' : Env} {O : List Addr} {σ : St} {H : Hp} {i : Nat} {c d : D} {v : V} (R : RelO C Γ O σ H) (hs : setC Γ i d = some Γ') (hv : σ[i]? = some (some v)) (hc : cont Γ[i]? = some c) : ∃ l o, v = .ref l ∧ H l = some o ∧ OwnOk C.K (hide O H) o c := by
  unfold setC at hs
  split at hs
  · rename_i d0 e
    rw [e] at hc
    cases hc
    obtain ⟨l, o, h1, h2, h3, h4, h5⟩ := R.sl i _ e
    rw [hv] at h1; cases h1
    exact ⟨l, o, rfl, h4, h5⟩
  · rename_i d0 e
    rw [e] at hc
    cases hc
    obtain ⟨l, o, h1, h2, h3, h4, h5⟩ := R.sl i _ e
    rw [hv] at h1; cases h1
    exact ⟨l, o, rfl, h4, h5⟩
  · cases hs
theorem sim_gSub {to ti : TE} {mo mi : DTE} (ho : SimE C to mo) (hi : SimE C ti mi) : SimG C (gSub to ti rSetL) (mgSub mo mi stD) := fun Γ O σ H v d Qd Q R r h k => by
  refine ho Γ O σ H _ _ R h fun ro Γ1 o H1 R1 e1 q1 => ?_
  refine hi Γ1 O σ H1 _ _ R1.rel q1 fun ri Γ2 iv H2 R2 e2 q2 => ?_
  obtain ⟨i, c, kd, rfl, hc, hk, q⟩ := q2
  have hi := R2.pend.b2 R2.rel hk
  unfold stD at q
  split at q
  · obtain ⟨j, hj, Γ3, hs, q⟩ := q
    obtain ⟨l, ob, rfl, hl, hb⟩ := place_at R2.rel hs R1.2 hc
    cases hb with
    | lst rr =>
      rename_i vs
      obtain ⟨R3, e3⟩ := set_relO (o := .lst (vs.set j v)) R2.rel hs R1.2 (.lst (rr.set (r.mono (L2.Same.trans e1.1 e2.1)) j))
      exact ⟨l, vs, _, j, rfl, hi.int, hl, by rw [rr.length]; exact hj, k Γ3 σ _ R3 (L2.Same.trans e1.1 (L2.Same.trans e2.1 e3)) q⟩
  · exact q.elim
theorem dg_name (i : Nat) {x : Str} (h : PG X (.Name x pos) (gName i)) : DG X C (.Name x pos) (gName i) (mgName i) := ⟨h, sim_gName i⟩
theorem dg_sub {o i : Expr} {to ti : TE} {mo mi : DTE} (h : PE X o to → PE X i ti → PG X (.Subscript o i pos) (gSub to ti rSetL)) (ho : DE X C o to mo) (hi : DE X C i ti mi) : DG X C (.Subscript o i pos) (gSub to ti rSetL) (mgSub mo mi stD) := ⟨h ho.pe hi.pe, sim_gSub ho.sim hi.sim⟩
end
end DL
/-! the data layer, part 6: comprehensions -/
namespace DL
open PySem L2
section
variable {C : Ctx} {Γ : Env} {O : List Addr} {σ : St} {H : Hp} {p : Addr} {o o' : HO}
theorem RelO.congrU {U : List (Addr × HO)} (R : RelO C Γ O σ H) (h : ∀ q ∈ U, H q.1 = some q.2 ∧ q.1 ∈ O ∧ ∀ i, ¬ MutAt Γ σ i q.1) : RelO { C with U := U } Γ O σ H :=
  ⟨fun i s e => by have := R.sl i s e; cases s <;> exact this, R.ds, R.fr, R.pv, R.pc, R.mm, R.bb, R.oo, R.al, R.ol, R.o0, R.tt, h, R.len⟩
theorem RelO.subU {U U' : List (Addr × HO)} (R : RelO { C with U := U } Γ O σ H) (h : ∀ q, q ∈ U' → q ∈ U) : RelO { C with U := U' } Γ O σ H :=
  RelO.congrU (C := { C with U := U }) R fun q hq => R.uu q (h q hq)
theorem RelO.backU {U : List (Addr × HO)} (R : RelO { C with U := U } Γ O σ H) (h : ∀ q, q ∈ C.U → q ∈ U) : RelO C Γ O σ H := R.subU (U' := C.U) h
theorem RelO.congrT {T : List (V × D)} (R : RelO C Γ O σ H) (h : ∀ q ∈ T, Rep C.K (hide O H) q.1 q.2) : RelO { C with T := T } Γ O σ H :=
  ⟨fun i s e => by have := R.sl i s e; cases s <;> exact this, R.ds, R.fr, R.pv, R.pc, R.mm, R.bb, R.oo, R.al, R.ol, R.o0, h, R.uu, R.len⟩
theorem RelO.backT {T : List (V × D)} (R : RelO { C with T := T } Γ O σ H) (h : ∀ q, q ∈ C.T → q ∈ T) : RelO C Γ O σ H :=
  RelO.congrT (C := { C with T := T }) R fun q hq => R.tt q (h q hq)
/-- an owned object that no slot holds changes -/
theorem RelO.updFree (R : RelO C Γ O σ H) (hp : p ∈ O) (h0 : C.H0 p = none) (hm : ∀ i, ¬ MutAt Γ σ i p) (hu : ∀ q ∈ C.U, q.1 ≠ p) (ht : Tk (some o) := by rfl) : RelO C Γ O σ (upd H p o) := by
  have eH : hide O (upd H p o) = hide O H := hide_mut hp (R.nr hp) ht.nr
  refine ⟨fun i s e => ?_, R.ds, fun a u e n => ?_, R.pv.upd (.inr hp) ht.nr, pc_upd R.pc, R.mm, R.bb, R.oo, fun a ha => ?_, R.ol, R.o0, fun q hq => by rw [eH]; exact R.tt q hq, fun q hq => ⟨by rw [upd_ne (hu q hq)]; exact (R.uu q hq).1, (R.uu q hq).2⟩, R.len⟩
  · have q := R.sl i s e
    cases s with
    | no => trivial
    | sh d => obtain ⟨v, h1, h2⟩ := q; exact ⟨v, h1, by rw [eH]; exact h2⟩
    | ow d => obtain ⟨l, u, h1, h2, h3, h4, h5⟩ := q; exact ⟨l, u, h1, h2, h3, by rw [upd_ne fun z => hm i (.inl ⟨⟨d, .inl e⟩, by rw [← z]; exact h1⟩)]; exact h4, by rw [eH]; exact h5⟩
    | io d => obtain ⟨l, u, h1, h2, h3, h4, h5⟩ := q; exact ⟨l, u, h1, h2, h3, by rw [upd_ne fun z => hm i (.inl ⟨⟨d, .inr e⟩, by rw [← z]; exact h1⟩)]; exact h4, by rw [eH]; exact h5⟩
    | bo d => obtain ⟨v, h1, h2, h3⟩ := q; exact ⟨v, h1, h2, by rw [eH]; exact h3⟩
    | pn b P => exact ⟨q.1, fun c hc => ⟨(q.2.1 c hc).1, by rw [upd_ne fun z => hm i (.inr ⟨b, P, c.2, e, by rw [← z]; exact hc⟩)]; exact (q.2.1 c hc).2.1, (q.2.1 c hc).2.2⟩, by rw [eH]; exact q.2.2⟩
    | st S =>
      refine ⟨q.1, q.2.1, fun a d hs => (q.2.2 a d hs).mono (fun b u hb => by rw [eH]; exact hb) fun l u hpv hl => ?_⟩
      rw [upd_ne fun z : l = p => R.npv hp (by rw [← z]; exact hpv)]; exact hl
  · have hne : a ≠ p := fun z => by rw [z, h0] at e; cases e
    rw [upd_ne hne]; exact R.fr a u e n
  · by_cases z : a = p
    · rw [z, upd_same]; exact ht
    · rw [upd_ne z]; exact R.al a ha
/-- an owned address is let go -/
theorem RelO.letgo (R : RelO C Γ O σ H) (h0 : C.H0 p = none) (hm : ∀ i, ¬ MutAt Γ σ i p) (hu : ∀ q ∈ C.U, q.1 ≠ p) {O' : List Addr} (ho : ∀ a, a ∈ O' ↔ a ∈ O ∧ a ≠ p) : RelO C Γ O' σ H ∧ Same (hide O H) (hide O' H) := by
  have e : Same (hide O H) (hide O' H) := hide_sub fun a h => ((ho a).mp h).1
  refine ⟨⟨fun i s es => ?_, R.ds, R.fr, R.pv.sub fun a ha => ((ho a).mp ha).1, R.pc, R.mm, R.bb, fun a ha => (ho a).mpr ⟨R.oo a ha, fun z => R.o0 a ha (by rw [z]; exact h0)⟩, fun a ha => R.al a ((ho a).mp ha).1, fun a ha => R.ol a ((ho a).mp ha).1, R.o0, fun q hq => (R.tt q hq).mono e, fun q hq => ⟨(R.uu q hq).1, (ho _).mpr ⟨(R.uu q hq).2.1, hu q hq⟩, (R.uu q hq).2.2⟩, R.len⟩, e⟩
  have q := R.sl i s es
  cases s with
  | no => trivial
  | sh d => obtain ⟨v, h1, h2⟩ := q; exact ⟨v, h1, h2.mono e⟩
  | ow d => obtain ⟨l, u, h1, h2, h3, h4, h5⟩ := q; exact ⟨l, u, h1, (ho l).mpr ⟨h2, fun z => hm i (.inl ⟨⟨d, .inl es⟩, by rw [← z]; exact h1⟩)⟩, h3, h4, h5.mono e⟩
  | io d => obtain ⟨l, u, h1, h2, h3, h4, h5⟩ := q; exact ⟨l, u, h1, h2, (ho l).mpr ⟨h3, fun z => hm i (.inl ⟨⟨d, .inr es⟩, by rw [← z]; exact h1⟩)⟩, h4, h5.mono e⟩
  | bo d =>
    obtain ⟨v, h1, h2, h3⟩ := q
    refine ⟨v, h1, h2, ?_⟩
    rcases h3 with h3 | ⟨l, u, h3, h4, h5, h6⟩
    · exact .inl (h3.mono e)
    · exact .inr ⟨l, u, h3, h4, h5, h6.mono e⟩
  | pn b P => exact ⟨q.1, fun c hc => ⟨(ho _).mpr ⟨(q.2.1 c hc).1, fun z => hm i (.inr ⟨b, P, c.2, es, by rw [← z]; exact hc⟩)⟩, (q.2.1 c hc).2⟩, fun t ht => (q.2.2 t ht).mono e⟩
  | st S => exact ⟨q.1, q.2.1, fun a d hs => (q.2.2 a d hs).mono e fun l o _ h => h⟩
end
/-! ### the slots of a comprehension's own names -/
def wipeD (Γ : Env) : List Nat → Env
  | [] => Γ
  | v :: vs => (wipeD Γ vs).set v .no
def restD (Γ Δ : Env) : List Nat → Env
  | [] => Δ
  | v :: vs => (restD Γ Δ vs).set v ((Γ[v]?).getD .no)
def okOwn (Γ : Env) : List Nat → Bool
  | [] => true
  | v :: vs => (match Γ[v]? with
    | some .no => true
    | some (.sh _) => true
    | _ => false) && okOwn Γ vs
theorem okOwn_at {Γ : Env} : ∀ {vs : List Nat} {i : Nat}, okOwn Γ vs = true → i ∈ vs → Γ[i]? = some .no ∨ ∃ d, Γ[i]? = some (.sh d)
  | [], _, _, h => absurd h (by simp)
  | v :: vs, i, e, h => by
    unfold okOwn at e
    rw [Bool.and_eq_true] at e
    rcases List.mem_cons.mp h with z | z
    · subst z
      have e1 := e.1
      split at e1
      · rename_i q; exact .inl q
      · rename_i d q; exact .inr ⟨d, q⟩
      · cases e1
    · exact okOwn_at e.2 z
theorem wipeD_get {Γ : Env} : ∀ {vs : List Nat} {i : Nat} {s : Sl}, (wipeD Γ vs)[i]? = some s → s = .no ∨ Γ[i]? = some s
  | [], _, _, h => .inr h
  | v :: vs, i, s, h => by
    unfold wipeD at h
    by_cases e : v = i
    · subst e
      exact .inl (get_set_same h).symm
    · rw [get_set_ne e] at h
      exact wipeD_get h
theorem restD_len {Γ Δ : Env} : ∀ vs : List Nat, (restD Γ Δ vs).length = Δ.length
  | [] => rfl
  | v :: vs => by unfold restD; rw [List.length_set, restD_len vs]
theorem restD_out {Γ Δ : Env} : ∀ {vs : List Nat} {i : Nat}, i ∉ vs → (restD Γ Δ vs)[i]? = Δ[i]?
  | [], _, _ => rfl
  | v :: vs, i, h => by
    unfold restD
    rw [get_set_ne fun e => h (by simp [e])]
    exact restD_out fun z => h (List.mem_cons_of_mem _ z)
theorem restD_in {Γ Δ : Env} : ∀ {vs : List Nat} {i : Nat} {s : Sl}, i ∈ vs → (restD Γ Δ vs)[i]? = some s → s = (Γ[i]?).getD .no
  | [], _, _, h, _ => absurd h (by simp)
  | v :: vs, i, s, h, e => by
    unfold restD at e
    by_cases z : v = i
    · subst z
      exact (get_set_same e).symm
    · rw [get_set_ne z] at e
      rcases List.mem_cons.mp h with q | q
      · exact absurd q.symm z
      · exact restD_in q e
section
variable {C : Ctx} {Γ Δ : Env} {O : List Addr} {σ σ2 : St} {H H' : Hp}
theorem RelO.wipe (R : RelO C Γ O σ H) : ∀ {vs : List Nat}, okOwn Γ vs = true → RelO C (wipeD Γ vs) O (L2.wipe σ vs) H
  | [], _ => R
  | v :: vs, h => by
    have h2 : okOwn Γ vs = true := by
      unfold okOwn at h
      rw [Bool.and_eq_true] at h
      exact h.2
    refine (RelO.wipe R h2).setNo ⟨fun d e => ?_, fun d e => ?_, fun P e => ?_⟩ none
    · rcases wipeD_get e with q | q
      · cases q
      · rcases okOwn_at h List.mem_cons_self with z | ⟨_, z⟩ <;> rw [q] at z <;> cases z
    · rcases wipeD_get e with q | q
      · cases q
      · rcases okOwn_at h List.mem_cons_self with z | ⟨_, z⟩ <;> rw [q] at z <;> cases z
    · rcases wipeD_get e with q | q
      · cases q
      · rcases okOwn_at h List.mem_cons_self with z | ⟨_, z⟩ <;> rw [q] at z <;> cases z
theorem RelO.rest {vs : List Nat} (R0 : RelO C Γ O σ H) (e : Same (hide O H) (hide O H')) (R : RelO C Δ O σ2 H') (hw : L2.wipe σ2 vs = L2.wipe σ vs) (hk : okOwn Γ vs = true) : RelO C (restD Γ Δ vs) O σ H' := by
  have same : ∀ {j : Nat}, j ∉ vs → σ[j]? = σ2[j]? := fun {j} h => by rw [← wipe_out h, ← hw, wipe_out h]
  have lenS : σ2.length = σ.length := by rw [← L2.wipe_length σ2 vs, hw, L2.wipe_length]
  have mutd : ∀ j a, MutAt (restD Γ Δ vs) σ j a → MutAt Δ σ2 j a := fun j a hh => by
    by_cases hj : j ∈ vs
    · exfalso
      rcases hh with ⟨⟨d, h | h⟩, h2⟩ | ⟨b, P, o, h, h2⟩ <;>
      · have q := restD_in hj h
        rcases okOwn_at hk hj with z | ⟨_, z⟩ <;> rw [z] at q <;> cases q
    · unfold MutAt at hh ⊢
      rwa [restD_out hj, same hj] at hh
  have out : ∀ {j : Nat} {s : Sl}, ((∃ d, s = .io d) ∨ (∃ d, s = .bo d) ∨ ∃ b P, s = .pn b P) → Γ[j]? = some s → j ∉ vs := fun {j s} hs h z => by
    rcases okOwn_at hk z with q | ⟨_, q⟩ <;> rw [h] at q <;> cases q <;> rcases hs with ⟨_, e⟩ | ⟨_, e⟩ | ⟨_, _, e⟩ <;> cases e
  refine ⟨fun j s h => ?_, fun i j a n h1 h2 => R.ds i j a n (mutd _ _ h1) (mutd _ _ h2), R.fr, R.pv, R.pc, fun q hq => ?_, fun q hq => ?_, R.oo, R.al, R.ol, R.o0, R.tt, fun q hq => ⟨(R.uu q hq).1, (R.uu q hq).2.1, fun j hj => (R.uu q hq).2.2 j (mutd _ _ hj)⟩, by rw [restD_len, R.len, lenS]⟩
  · by_cases hj : j ∈ vs
    · have q := restD_in hj h
      rcases okOwn_at hk hj with z | ⟨d, z⟩
      · rw [z] at q; subst q; trivial
      · rw [z] at q
        subst q
        obtain ⟨v, h1, h2⟩ := R0.sl j _ z
        exact ⟨v, h1, h2.mono e⟩
    · rw [restD_out hj] at h
      have q := R.sl j s h
      have es := same hj
      cases s with
      | no => trivial
      | sh d => unfold SlOk at q ⊢; rw [es]; exact q
      | ow d => unfold SlOk at q ⊢; rw [es]; exact q
      | io d => unfold SlOk at q ⊢; rw [es]; exact q
      | bo d => unfold SlOk at q ⊢; rw [es]; exact q
      | pn b P => unfold SlOk at q ⊢; rw [es]; exact q
      | st S => exact q
  · have ho : q.1 ∉ vs := by
      rcases R0.mm q hq with ⟨_, d, h⟩ | ⟨_, _, P, h⟩
      · exact out (.inl ⟨d, rfl⟩) h
      · exact out (.inr (.inr ⟨true, P, rfl⟩)) h
    rw [restD_out ho, same ho]
    exact R.mm q hq
  · obtain ⟨d, h⟩ := (R0.bb q hq).2
    have ho := out (.inr (.inl ⟨d, rfl⟩)) h
    exact ⟨(R0.bb q hq).1, by rw [restD_out ho]; exact (R.bb q hq).2⟩
end
/-- what a source asks at each turn -/
def srcD (Γ : Env) : Src → Prop
  | .pl i d => rd Γ (.pl i) = some d
  | .hd a d => stGet Γ a = some d
  | _ => True
def compM (src : Src) (mg : DTG) (mt : DTT) (me : DTE) (vs : List Nat) (Q : List D → Env → Prop) : List D → List D → Env → Prop
  | [], acc, Γ => srcD Γ src ∧ Q acc Γ
  | x :: xs, acc, Γ => srcD Γ src ∧ okOwn Γ vs = true ∧ mg x (wipeD Γ vs) fun Γ2 => mt Γ2 fun b Γ3 =>
      if b = true then me Γ3 fun r Γ4 => ∃ d, dat r = some d ∧ acc.length < 100000 ∧ compM src mg mt me vs Q xs (acc ++ [d]) (restD Γ Γ4 vs) else compM src mg mt me vs Q xs acc (restD Γ Γ3 vs)
def mComp (mi : DTI) (mg : DTG) (mt : DTT) (me : DTE) (vs : List Nat) : DTE := fun Γ Q => mi Γ fun src items Γ1 => compM src mg mt me vs (fun acc Γ2 => Q (.fr (.lst acc)) Γ2) items [] Γ1
/-- a target stores to the own names alone -/
def OwnG (g : TG) (vs : List Nat) : Prop := ∀ (v : V) (σ : St) (H : Hp) (Q : St → Hp → Prop), g v σ H Q → g v σ H fun σ' H' => L2.wipe σ' vs = L2.wipe σ vs ∧ Q σ' H'
theorem wipe_set {σ : St} {x : Option V} : ∀ {vs : List Nat} {i : Nat}, i ∈ vs → L2.wipe (σ.set i x) vs = L2.wipe σ vs
  | [], _, h => absurd h (by simp)
  | v :: vs, i, h => by
    by_cases e : i ∈ vs
    · unfold L2.wipe
      rw [wipe_set e]
    · have : i = v := by
        rcases List.mem_cons.mp h with z | z
        · exact z
        · exact absurd z e
      subst this
      unfold L2.wipe
      have comm : ∀ {ws : List Nat}, i ∉ ws → L2.wipe (σ.set i x) ws = (L2.wipe σ ws).set i x := fun {ws} => by
        induction ws with
        | nil => intro _; rfl
        | cons w ws ih =>
          intro hn
          unfold L2.wipe
          rw [ih fun z => hn (List.mem_cons_of_mem _ z)]
          exact List.set_comm _ _ (fun z => hn (by simp [z]))
      rw [comm e, List.set_set]
theorem own_name {i : Nat} {vs : List Nat} (h : i ∈ vs) : OwnG (gName i) vs := fun v σ H Q q => ⟨wipe_set h, q⟩
theorem mono_name {i : Nat} (v : V) (σ : St) (H : Hp) (Q Q' : St → Hp → Prop) (k : ∀ σ H, Q σ H → Q' σ H) (h : gName i v σ H Q) : gName i v σ H Q' := k _ _ h
section
variable {C : Ctx}
/-- the readable source, at any later heap -/
theorem SrcOk.at {Γ Γ' : Env} {O O' : List Addr} {σ : St} {H H' : Hp} {g : List Addr → Hp → Prop} {src : Src} (h : SrcOk C Γ O σ H g src) (e : Same (hide O H) (hide O' H')) (R : RelO C Γ' O' σ H') (hd : srcD Γ' src) : g O' H' := by
  cases src with
  | no => exact h O' H'
  | val d =>
    obtain ⟨v, h1, h2⟩ := h
    exact h2 O' H' (h1.mono e)
  | v2 a b =>
    obtain ⟨v, w, h1, h1', h2⟩ := h
    exact h2 O' H' (h1.mono e) (h1'.mono e)
  | pl i d =>
    obtain ⟨v, h1, _, h2⟩ := h
    exact h2 O' H' (Pend.b2 (r := .pl i) R h1 hd)
  | hd a d => exact h.2 O' H' (Pend.b2 (r := .hd a) R rfl hd)
theorem sim_comp {wi : TI} {g : TG} {tt : TT} {te : TE} {vs : List Nat} {mi : DTI} {mg : DTG} {mt : DTT} {me : DTE} (hi : SimI C wi mi) (hg : ∀ U, SimG { C with U := U } g mg) (hgo : OwnG g vs) (ht : ∀ U, SimT { C with U := U } tt mt) (he : ∀ U, SimE { C with U := U } te me)
    (hgm : ∀ (v : V) (σ : St) (H : Hp) (Q Q' : St → Hp → Prop), (∀ σ H, Q σ H → Q' σ H) → g v σ H Q → g v σ H Q') : SimE C (tLc wi g tt te vs) (mComp mi mg mt me vs) := fun Γ O σ H Qd Q R h k => by
  refine hi Γ O σ H _ _ R h fun src items Γ1 J H1 n gg R1 e1 itd sok q => ?_
  intro Dd hD
  have h0 : C.H0 Dd = none := R1.fresh0 hD
  have hDO : Dd ∉ O := R1.notin hD
  have hU : ∀ q ∈ C.U, q.1 ≠ Dd := fun q hq => ne_of_none (R1.uu q hq).1 hD
  have hM1 : ∀ i, ¬ MutAt Γ1 σ i Dd := fun i hm => hDO (R1.mutIn hm)
  -- the invariant
  let Wp : Nat → Nat → Hp → Prop := fun i m Hc => m = n - i ∧ i ≤ n ∧ ∃ (acc : List D) (vacc : List V) (Γi : Env), RelO { C with U := (Dd, .lst vacc) :: C.U } Γi (Dd :: O) σ Hc ∧ Same (hide O H1) (hide (Dd :: O) Hc) ∧ Reps C.K (hide (Dd :: O) Hc) vacc acc ∧
    compM src mg mt me vs (fun acc Γ2 => Qd (.fr (.lst acc)) Γ2) (items.drop i) acc Γi
  refine ⟨Wp, ⟨n, by simp, Nat.zero_le _, [], [], Γ1, ?_, hide_newO hD rfl, .nil, q⟩, ?_⟩
  · refine (R1.allocO hD).congrU fun q hq => ?_
    rcases List.mem_cons.mp hq with z | z
    · subst z; exact ⟨upd_same, List.mem_cons_self, hM1⟩
    · exact (R1.allocO hD).uu q z
  rintro i m Hc ⟨rfl, hin, acc, vacc, Γi, Ri, ei, ri, qi⟩
  have RC : RelO C Γi (Dd :: O) σ Hc := Ri.backU fun q hq => List.mem_cons_of_mem _ hq
  have hDc : Hc Dd = some (.lst vacc) := (Ri.uu _ List.mem_cons_self).1
  have hDm : ∀ i, ¬ MutAt Γi σ i Dd := (Ri.uu _ List.mem_cons_self).2.2
  by_cases hlt : i < n
  · have hil : i < items.length := by rw [itd.len]; exact hlt
    have ed : items.drop i = items[i] :: items.drop (i + 1) := List.drop_eq_getElem_cons hil
    rw [ed] at qi
    obtain ⟨hs, hk, qi⟩ := qi
    have gi : gg (Dd :: O) Hc := sok.at ei RC hs
    refine .inr ⟨itd.go i _ _ gi hlt, fun H' => Wp (i + 1) (n - (i + 1)) H', fun H' w => ⟨n - (i + 1), by omega, w⟩, fun x H' y => ?_⟩
    obtain ⟨d, hd, hx⟩ := itd.yld i _ _ x H' Ri.alT gi hlt y
    have hdi : d = items[i] := by
      rw [List.getElem?_eq_getElem hil] at hd
      exact (Option.some.inj hd).symm
    have st : RelO { C with U := (Dd, .lst vacc) :: C.U } Γi (Dd :: O) σ H' ∧ Rep C.K (hide (Dd :: O) H') x d ∧ Same (hide (Dd :: O) Hc) (hide (Dd :: O) H') := by
      rcases hx with ⟨rfl, hx⟩ | ⟨p, pvs, pds, rfl, hp, rfl, hr, rfl⟩
      · exact ⟨Ri, hx, L2.Same.refl _⟩
      · exact ⟨Ri.alloc hp, .tup (by rw [hide_out (Ri.notin hp) ((Ri.alloc hp (o := .tup pvs)).npvT upd_same)]; exact upd_same) (hr.mono (hide_new hp rfl)), hide_new hp rfl⟩
    obtain ⟨R', r', e'⟩ := st
    rw [← hdi] at qi
    refine hgm _ _ _ _ _ (fun σ2 H2 q2 => ?_) (hgo _ _ _ _ (hg _ (wipeD Γi vs) (Dd :: O) (L2.wipe σ vs) H' x d _ (fun σ2 H2 => ∃ Γ2, RelO { C with U := (Dd, .lst vacc) :: C.U } Γ2 (Dd :: O) σ2 H2 ∧ Same (hide (Dd :: O) H') (hide (Dd :: O) H2) ∧ mt Γ2 fun b Γ3 =>
        if b = true then me Γ3 fun r Γ4 => ∃ d, dat r = some d ∧ acc.length < 100000 ∧ compM src mg mt me vs (fun acc Γ2 => Qd (.fr (.lst acc)) Γ2) (items.drop (i + 1)) (acc ++ [d]) (restD Γi Γ4 vs) else compM src mg mt me vs (fun acc Γ2 => Qd (.fr (.lst acc)) Γ2) (items.drop (i + 1)) acc (restD Γi Γ3 vs))
        (R'.wipe hk) r' qi fun Γ2 σ2 H2 R2 e2 q2 => ⟨Γ2, R2, e2, q2⟩))
    obtain ⟨hw, Γ2, R2, e2, q2⟩ := q2
    have idem : ∀ (τ : St) (ws : List Nat), (∀ j ∈ ws, j ∈ vs) → L2.wipe (L2.wipe τ ws) ws = L2.wipe τ ws := by
      intro τ ws _
      induction ws with
      | nil => rfl
      | cons w ws ih =>
        show (L2.wipe ((L2.wipe τ ws).set w none) ws).set w none = (L2.wipe τ ws).set w none
        by_cases hww : w ∈ ws
        · rw [wipe_set hww, ih (fun j hj => by rename_i hsub; exact hsub j (List.mem_cons_of_mem _ hj))]
        · have comm : ∀ {us : List Nat} {τ' : St}, w ∉ us → L2.wipe (τ'.set w none) us = (L2.wipe τ' us).set w none := fun {us τ'} => by
            induction us with
            | nil => intro _; rfl
            | cons u us ih2 =>
              intro hn
              unfold L2.wipe
              rw [ih2 fun z => hn (List.mem_cons_of_mem _ z)]
              exact List.set_comm _ _ (fun z => hn (by simp [z]))
          rw [comm hww, List.set_set, ih (fun j hj => by rename_i hsub; exact hsub j (List.mem_cons_of_mem _ hj))]
    have hw' : L2.wipe σ2 vs = L2.wipe σ vs := hw.trans (idem σ vs fun _ h => h)
    refine ⟨hw', ?_⟩
    · refine ht _ Γ2 (Dd :: O) σ2 H2 _ _ R2 q2 fun b Γ3 H3 R3 e3 q3 => ?_
      have eAll3 := L2.Same.trans ei (L2.Same.trans e' (L2.Same.trans e2 e3))
      cases b with
      | true =>
        refine he _ Γ3 (Dd :: O) σ2 H3 _ _ R3 q3 fun r Γ4 y H4 R4 e4 q4 => ?_
        obtain ⟨dy, hdy, hacc, q4⟩ := q4
        have ry : Rep C.K (hide (Dd :: O) H4) y dy := R4.pend.dat hdy
        have hD4 : H4 Dd = some (.lst vacc) := (R4.rel.uu _ List.mem_cons_self).1
        have e5 : hide (Dd :: O) (upd H4 Dd (.lst (vacc ++ [y]))) = hide (Dd :: O) H4 := hide_mut List.mem_cons_self (R4.rel.nr List.mem_cons_self) rfl
        have racc : Reps C.K (hide (Dd :: O) H4) vacc acc := ri.mono (L2.Same.trans e' (L2.Same.trans e2 (L2.Same.trans e3 e4.1)))
        refine ⟨vacc, hD4, by rw [racc.length]; exact Nat.lt_of_lt_of_le hacc (by decide), rfl, hlt, acc ++ [dy], vacc ++ [y], restD Γi Γ4 vs, ?_, ?_, ?_, q4⟩
        · have Rr := R'.rest (L2.Same.trans e2 (L2.Same.trans e3 e4.1)) R4.rel hw' hk
          have RrC : RelO C (restD Γi Γ4 vs) (Dd :: O) σ H4 := Rr.backU fun q hq => List.mem_cons_of_mem _ hq
          have hm4 := (Rr.uu _ List.mem_cons_self).2.2
          have Ru := RrC.updFree (o := .lst (vacc ++ [y])) List.mem_cons_self h0 hm4 hU
          refine Ru.congrU fun q hq => ?_
          rcases List.mem_cons.mp hq with z | z
          · subst z; exact ⟨upd_same, List.mem_cons_self, hm4⟩
          · exact Ru.uu q z
        · rw [e5]; exact L2.Same.trans eAll3 e4.1
        · rw [e5]; exact racc.append (.cons ry .nil)
      | false =>
        refine ⟨rfl, hlt, acc, vacc, restD Γi Γ3 vs, R'.rest (L2.Same.trans e2 e3) R3 hw' hk, eAll3, ri.mono (L2.Same.trans e' (L2.Same.trans e2 e3)), q3⟩
  · have e : i = n := by omega
    subst e
    rw [List.drop_of_length_le (by rw [itd.len]; exact Nat.le_refl _)] at qi
    obtain ⟨hs, qi⟩ := qi
    refine .inl ⟨itd.stop _ _ (sok.at ei RC hs), ?_⟩
    obtain ⟨RO, eO⟩ := RC.letgo (O' := O) h0 hDm hU fun a => ⟨fun ha => ⟨List.mem_cons_of_mem _ ha, fun z => hDO (z ▸ ha)⟩, fun ha => (List.mem_cons.mp ha.1).resolve_left ha.2⟩
    exact k (.fr (.lst acc)) Γi (.ref Dd) Hc ⟨RO, Dd, .lst vacc, rfl, hDc, hDO, h0, .lst ri, RC⟩ (.fr (L2.Same.trans e1 ei)) qi
end
end DL
/-! the data layer, part 7: statements -/
namespace DL
open PySem L2
def mYes : DTT := fun Γ Q => Q true Γ
theorem sim_yes {C : Ctx} : SimT C tYes mYes := fun Γ O σ H Qd Q R h k => k true Γ H R (L2.Same.refl _) h
/-! ### statements -/
structure DEnds where
  nx : Env → Prop
  rt : Res → Env → Prop
  bk : Env → Prop := fun _ => False
  ct : Env → Prop := fun _ => False
abbrev DTS := DEnds → Env → Prop
structure Link (C : Ctx) (D : Ends) (Dd : DEnds) : Prop where
  nx : ∀ Γ O σ H, RelO C Γ O σ H → Dd.nx Γ → D.nx σ H
  rt : ∀ r Γ O σ H v, ROk C Γ O σ H v r → Dd.rt r Γ → D.rt v H
  bk : ∀ Γ O σ H, RelO C Γ O σ H → Dd.bk Γ → D.bk σ H
  ct : ∀ Γ O σ H, RelO C Γ O σ H → Dd.ct Γ → D.ct σ H
def SimS (C : Ctx) (t : TS) (m : DTS) : Prop := ∀ (Γ : Env) (O : List Addr) (σ : St) (H : Hp) (D : Ends) (Dd : DEnds), RelO C Γ O σ H → m Dd Γ → Link C D Dd → t D σ H
structure DS (X : Cx) (C : Ctx) (st : Stmt) (t : TS) (m : DTS) : Prop where
  ps : PS X st t
  sim : SimS C t m
structure DSs (X : Cx) (C : Ctx) (st : List Stmt) (t : TS) (m : DTS) : Prop where
  pss : PSs X st t
  sim : SimS C t m
def mNext : DTS := fun D Γ => D.nx Γ
def mSeqS (m n : DTS) : DTS := fun D Γ => m { D with nx := n D } Γ
def mBrk : DTS := fun D Γ => D.bk Γ
def mCnt : DTS := fun D Γ => D.ct Γ
def mDrop (ma : DTE) : DTS := fun D Γ => ma Γ fun _ Γ1 => D.nx Γ1
def mRet (ma : DTE) : DTS := fun D Γ => ma Γ D.rt
def mRetN : DTS := fun D Γ => D.rt (.val .non) Γ
def mIfS (mt : DTT) (m n : DTS) : DTS := fun D Γ => mt Γ fun b Γ1 => if b = true then m D Γ1 else n D Γ1
/-- name = e, the object shared from now on | owned by the name -/
def mSet (i : Nat) (ma : DTE) : DTS := fun D Γ => ma Γ fun r Γ1 => ∃ d, dat r = some d ∧ freeB Γ1 i = true ∧ D.nx (Γ1.set i (.sh d))
def mSetO (i : Nat) (ma : DTE) : DTS := fun D Γ => ma Γ fun r Γ1 => ∃ d, r = .fr d ∧ freeB Γ1 i = true ∧ D.nx (Γ1.set i (.ow d))
/-- a ghost step: the object of slot i is shared from now on -/
def frzD (Γ : Env) (i : Nat) : Option Env := match Γ[i]? with
  | some (.ow d) => some (Γ.set i (.sh d))
  | some (.sh _) => some Γ
  | _ => none
def mFrz (i : Nat) (m : DTS) : DTS := fun D Γ => ∃ Γ1, frzD Γ i = some Γ1 ∧ m D Γ1
section
variable {X : Cx} {C : Ctx} {st : Stmt} {rest a b : List Stmt} {t u : TS} {m n : DTS} {e c : Expr} {te : TE} {me : DTE} {tc : TT} {mc : DTT} {pos : Pos}
theorem sim_next : SimS C tNext mNext := fun Γ O σ H D Dd R h L => L.nx Γ O σ H R h
theorem sim_seq (h1 : SimS C t m) (h2 : SimS C u n) : SimS C (tSeq t u) (mSeqS m n) := fun Γ O σ H D Dd R h L => h1 Γ O σ H _ _ R h ⟨fun Γ O σ H R h => h2 Γ O σ H _ _ R h L, L.rt, L.bk, L.ct⟩
theorem sim_drop (h1 : SimE C te me) : SimS C (tDrop te) (mDrop me) := fun Γ O σ H D Dd R h L => h1 Γ O σ H _ _ R h fun r Γ1 v H1 R1 e1 q => L.nx Γ1 O σ H1 R1.rel q
theorem sim_ret (h1 : SimE C te me) : SimS C (tRet te) (mRet me) := fun Γ O σ H D Dd R h L => h1 Γ O σ H _ _ R h fun r Γ1 v H1 R1 e1 q => L.rt r Γ1 O σ H1 v R1 q
theorem sim_ifS (hc : SimT C tc mc) (h1 : SimS C t m) (h2 : SimS C u n) : SimS C (tIfS tc t u) (mIfS mc m n) := fun Γ O σ H D Dd R h L => hc Γ O σ H _ _ R h fun b Γ1 H1 R1 e1 q => by
  cases b with
  | true => exact h1 Γ1 O σ H1 D Dd R1 q L
  | false => exact h2 Γ1 O σ H1 D Dd R1 q L
theorem sim_set {i : Nat} (h1 : SimE C te me) : SimS C (tAsg te (gName i)) (mSet i me) := fun Γ O σ H D Dd R h L => h1 Γ O σ H _ _ R h fun r Γ1 v H1 R1 e1 q => by
  obtain ⟨d, hd, hf, q⟩ := q
  exact L.nx _ O _ H1 (R1.rel.setSh (freeB_of hf) (R1.pend.dat hd)) q
theorem sim_setO {i : Nat} (h1 : SimE C te me) : SimS C (tAsg te (gName i)) (mSetO i me) := fun Γ O σ H D Dd R h L => h1 Γ O σ H _ _ R h fun r Γ1 v H1 R1 e1 q => by
  obtain ⟨d, rfl, hf, q⟩ := q
  obtain ⟨R1, p, o, rfl, hp, hpO, h0, ho, R2⟩ := R1
  exact L.nx _ (p :: O) _ H1 (R2.setOw (freeB_of hf) (fun j hj => hpO (R1.mutIn hj)) (fun q hq z => hpO (z ▸ (R1.uu q hq).2.1)) h0 hp ho) q
theorem ds_nil : DSs X C [] tNext mNext := ⟨pss_nil, sim_next⟩
theorem ds_cons (h1 : DS X C st t m) (h2 : DSs X C rest u n) : DSs X C (st :: rest) (tSeq t u) (mSeqS m n) := ⟨pss_cons h1.ps h2.pss, sim_seq h1.sim h2.sim⟩
theorem ds_one (h1 : DS X C st t m) : DSs X C [st] t m := ⟨pss_one h1.ps, h1.sim⟩
theorem ds_expr (h : DE X C e te me) (hs : swapsWith e none pos.line X.env = pure false := by rfl) : DS X C (.Expr e pos) (tDrop te) (mDrop me) := ⟨ps_expr h.pe hs, sim_drop h.sim⟩
theorem ds_ret (h : DE X C e te me) : DS X C (.Return (some e) pos) (tRet te) (mRet me) := ⟨ps_ret h.pe, sim_ret h.sim⟩
theorem ds_if (hc : DT X C c tc mc) (ha : DSs X C a t m) (hb : DSs X C b u n) : DS X C (.If c a b pos) (tIfS tc t u) (mIfS mc m n) := ⟨ps_if hc.pt ha.pss hb.pss, sim_ifS hc.sim ha.sim hb.sim⟩
/-- name = e: h is ps_set (or ps_setLc) of the expression's rule -/
theorem ds_set {i : Nat} (he : DE X C e te me) (h : PE X e te → PS X st (tAsg te (gName i))) : DS X C st (tAsg te (gName i)) (mSet i me) := ⟨h he.pe, sim_set he.sim⟩
theorem ds_setO {i : Nat} (he : DE X C e te me) (h : PE X e te → PS X st (tAsg te (gName i))) : DS X C st (tAsg te (gName i)) (mSetO i me) := ⟨h he.pe, sim_setO he.sim⟩
theorem ds_setSO {i : Nat} (h : PS X st (tAsg te (gName i))) (hs : SimE C te me) : DS X C st (tAsg te (gName i)) (mSetO i me) := ⟨h, sim_setO hs⟩
/-- target = e -/
def mAsg (ma : DTE) (mg : DTG) : DTS := fun D Γ => ma Γ fun r Γ1 => ∃ d, dat r = some d ∧ mg d Γ1 D.nx
theorem sim_asg {g : TG} {mg : DTG} (h1 : SimE C te me) (h2 : SimG C g mg) : SimS C (tAsg te g) (mAsg me mg) := fun Γ O σ H D Dd R h L => h1 Γ O σ H _ _ R h fun r Γ1 v H1 R1 e1 q => by
  obtain ⟨d, hd, q⟩ := q
  exact h2 Γ1 O σ H1 v d _ _ R1.rel (R1.pend.dat hd) q fun Γ2 σ2 H2 R2 e2 q2 => L.nx Γ2 O σ2 H2 R2 q2
theorem ds_asg {tg : Expr} {g : TG} {mg : DTG} (he : DE X C e te me) (hg : DG X C tg g mg) (hs : swapsWithSole [tg] e pos.line X.env = pure false := by rfl) (hw : swappedStores [tg] e X.env = pure none := by rfl)
    (h1 : (assignEach [tg] X.env).map (·.2) = [assign tg X.env] := by rfl) : DS X C (.Assign [tg] e pos) (tAsg te g) (mAsg me mg) := ⟨ps_asg he.pe hg.pg hs hw h1, sim_asg he.sim hg.sim⟩
/-- name op= e: ints, texts, and lists that the name owns -/
def mAug (i : Nat) (me : DTE) (f : D → D → (Res → Prop) → Prop) : DTS := fun D Γ => ∃ x, Γ[i]? = some (.sh x) ∧ me Γ fun r Γ1 => ∃ y, rd Γ1 r = some y ∧ f x y fun z => ∃ d, z = .val d ∧ freeB Γ1 i = true ∧ D.nx (Γ1.set i (.sh d))
def addI : D → D → (Res → Prop) → Prop
  | .int i, .int j, Q => Q (.val (.int (i + j)))
  | _, _, _ => False
def subI : D → D → (Res → Prop) → Prop
  | .int i, .int j, Q => Q (.val (.int (i - j)))
  | _, _, _ => False
end
/-! ### for -/
/-- what a source asks at each turn of a loop: a place is a parameter that is only looked at -/
def srcL (Γ : Env) : Src → Prop
  | .pl i d => Γ[i]? = some (.bo d)
  | .hd a d => stGet Γ a = some d
  | _ => True
def loopM (src : Src) (mg : DTG) (mb : DTS) (K : DEnds) : List D → Env → Prop
  | [], Γ => srcL Γ src ∧ K.nx Γ
  | x :: xs, Γ => srcL Γ src ∧ mg x Γ fun Γ2 => mb { K with nx := loopM src mg mb K xs, ct := loopM src mg mb K xs, bk := K.nx } Γ2
def mFor (mi : DTI) (mg : DTG) (mb : DTS) : DTS := fun K Γ => mi Γ fun src items Γ1 => loopM src mg mb K items Γ1
section
variable {C : Ctx}
theorem ROk.backT {T : List (V × D)} {Γ : Env} {O : List Addr} {σ : St} {H : Hp} {v : V} {r : Res} (h : ROk { C with T := T } Γ O σ H v r) (hT : ∀ q, q ∈ C.T → q ∈ T) : ROk C Γ O σ H v r := by
  cases r with
  | val d => exact ⟨h.1.backT hT, h.2⟩
  | fr d =>
    obtain ⟨h1, p, o, e, h2, h3, h4, h5, h6⟩ := h
    exact ⟨h1.backT hT, p, o, e, h2, h3, h4, h5, h6.backT hT⟩
  | pl i => exact ⟨h.1.backT hT, h.2⟩
  | np a ds => exact ⟨h.1.backT hT, h.2⟩
  | hd a => exact ⟨h.1.backT hT, h.2⟩
theorem sim_for {wi : TI} {g : TG} {tb : TS} {mi : DTI} {mg : DTG} {mb : DTS} (hi : SimI C wi mi) (hg : ∀ T, SimG { C with T := T } g mg) (hb : ∀ T, SimS { C with T := T } tb mb) : SimS C (tFor wi g tb) (mFor mi mg mb) := fun Γ O σ H D Dd R h L => by
  refine hi Γ O σ H _ _ R h fun src items Γ1 J H1 n gg R1 e1 itd sok q => ?_
  -- what is held meanwhile
  have hold : ∃ T, (∀ q, q ∈ C.T → q ∈ T) ∧ RelO { C with T := T } Γ1 O σ H1 ∧ ∀ Γ' O' σ' H', RelO { C with T := T } Γ' O' σ' H' → srcL Γ' src → gg O' H' := by
    cases src with
    | no => exact ⟨C.T, fun _ h => h, R1, fun Γ' O' σ' H' _ _ => sok O' H'⟩
    | val d =>
      obtain ⟨v, h1, h2⟩ := sok
      refine ⟨(v, d) :: C.T, fun _ h => List.mem_cons_of_mem _ h, R1.congrT fun q hq => ?_, fun Γ' O' σ' H' R' _ => h2 O' H' (R'.tt _ List.mem_cons_self)⟩
      rcases List.mem_cons.mp hq with z | z
      · subst z; exact h1
      · exact R1.tt q z
    | v2 a b =>
      obtain ⟨v, w, h1, h1', h2⟩ := sok
      refine ⟨(v, a) :: (w, b) :: C.T, fun _ h => List.mem_cons_of_mem _ (List.mem_cons_of_mem _ h), R1.congrT fun q hq => ?_, fun Γ' O' σ' H' R' _ => h2 O' H' (R'.tt _ List.mem_cons_self) (R'.tt _ (List.mem_cons_of_mem _ List.mem_cons_self))⟩
      rcases List.mem_cons.mp hq with z | z
      · subst z; exact h1
      · rcases List.mem_cons.mp z with z | z
        · subst z; exact h1'
        · exact R1.tt q z
    | pl i d =>
      obtain ⟨v, h1, h2, h3⟩ := sok
      refine ⟨C.T, fun _ h => h, R1, fun Γ' O' σ' H' R' hl => ?_⟩
      have hl : Γ'[i]? = some (.bo d) := hl
      obtain ⟨v', g1, g2, g3⟩ := R'.sl i _ hl
      have hv : v' = v := by
        have b1 := (R1.bb _ g2).1
        rw [h1] at b1
        exact (Option.some.inj (Option.some.inj b1)).symm
      subst hv
      refine h3 O' H' (Pend.b2 (r := .pl i) R' g1 ?_)
      show cont Γ'[i]? = some d
      rw [hl]; rfl
    | hd a d => exact ⟨C.T, fun _ h => h, R1, fun Γ' O' σ' H' R' hl => sok.2 O' H' (Pend.b2 (r := .hd a) R' rfl hl)⟩
  obtain ⟨T, hT, RT, hgg⟩ := hold
  refine ⟨fun i m σ H => m = n - i ∧ i ≤ n ∧ ∃ Γ O, RelO { C with T := T } Γ O σ H ∧ loopM src mg mb Dd (items.drop i) Γ, ⟨n, by simp, Nat.zero_le _, Γ1, O, RT, q⟩, ?_⟩
  rintro i m σ2 H2 ⟨rfl, hin, Γ2, O2, R2, q2⟩
  by_cases hlt : i < n
  · have hil : i < items.length := by rw [itd.len]; exact hlt
    rw [List.drop_eq_getElem_cons hil] at q2
    obtain ⟨hs, q2⟩ := q2
    have gi := hgg _ _ _ _ R2 hs
    refine .inr ⟨itd.go i _ _ gi hlt, fun σ' H' => ∃ Γ' O', RelO { C with T := T } Γ' O' σ' H' ∧ loopM src mg mb Dd (items.drop (i + 1)) Γ', fun σ' H' ⟨Γ', O', R', q'⟩ => ⟨n - (i + 1), by omega, rfl, hlt, Γ', O', R', q'⟩, fun x H' y => ?_⟩
    obtain ⟨d, hd, hx⟩ := itd.yld i _ _ x H' R2.alT gi hlt y
    have hdi : d = items[i] := by
      rw [List.getElem?_eq_getElem hil] at hd
      exact (Option.some.inj hd).symm
    have st : RelO { C with T := T } Γ2 O2 σ2 H' ∧ Rep C.K (hide O2 H') x d := by
      rcases hx with ⟨rfl, hx⟩ | ⟨p, pvs, pds, rfl, hp, rfl, hr, rfl⟩
      · exact ⟨R2, hx⟩
      · exact ⟨R2.alloc hp, .tup (by rw [hide_out (R2.notin hp) ((R2.alloc hp (o := .tup pvs)).npvT upd_same)]; exact upd_same) (hr.mono (hide_new hp rfl))⟩
    obtain ⟨R', r'⟩ := st
    rw [← hdi] at q2
    refine hg T Γ2 O2 σ2 H' x d _ _ R' r' q2 fun Γ3 σ3 H3 R3 e3 q3 => ?_
    refine hb T Γ3 O2 σ3 H3 _ _ R3 q3 ⟨fun Γ' O' σ' H' R q => ⟨Γ', O', R, q⟩, fun r Γ' O' σ' H' v hr q => L.rt r Γ' O' σ' H' v (hr.backT hT) q, fun Γ' O' σ' H' R q => L.nx Γ' O' σ' H' (R.backT hT) q, fun Γ' O' σ' H' R q => ⟨Γ', O', R, q⟩⟩
  · have e : i = n := by omega
    subst e
    rw [List.drop_of_length_le (by rw [itd.len]; exact Nat.le_refl _)] at q2
    exact .inl ⟨itd.stop _ _ (hgg _ _ _ _ R2 q2.1), L.nx Γ2 O2 σ2 H2 (R2.backT hT) q2.2⟩
end
section
variable {X : Cx} {C : Ctx} {tg iter c : Expr} {body : List Stmt} {wi : TI} {g : TG} {tb : TS} {mi : DTI} {mg : DTG} {mb : DTS} {pos : Pos} {tc : TT} {mc : DTT}
theorem ds_for (hp : PassesOwn (model X.prog X.w) X.A X.env X.xe) (hc : X.calm = true) (hi : DI X C tg iter wi mi) (hg : ∀ T, DG X { C with T := T } tg g mg) (hb : ∀ T, DSs X { C with T := T } body tb mb) (hs : ∀ x, foldedSetIterable iter X.env x = pure x := by intro _; rfl) : DS X C (.For tg iter body [] pos) (tFor wi g tb) (mFor mi mg mb) :=
  ⟨ps_for hp hc hi.pi (hg C.T).pg (hb C.T).pss hs, sim_for hi.sim (fun T => (hg T).sim) fun T => (hb T).sim⟩
end
end DL
/-! the data layer, part 8: what a def promises over data; calls -/
namespace DL
open PySem L2
/-! exceptions are those whose context is None (raised where nothing is handled): the kit's L2N in the place of L2 -/
abbrev Takes := @L2N.Takes
abbrev takes_of := @L2N.takes_of
abbrev passAt := @L2N.passAt
abbrev PMk := @L2N.PMk
abbrev ps_raise := @L2N.ps_raise
abbrev ps_try_as := @L2N.ps_try_as
abbrev Zc := @L2N.Zn
theorem passL {X : Cx} : Passes (L2N.CX X.prog X.w) X E0 := fun _ _ _ _ _ _ _ h => by
  obtain ⟨_, _, _, _, _, _, _, _, _, _, _, _, z⟩ := h
  exact z.elim
/-- how a parameter is taken: shared; only looked at; changed in place -/
inductive Md where
  | S
  | B
  | M
  | G
  deriving DecidableEq
/-- the modes of the parameters, without the store's (which stands last, if it is there) -/
def strip : List Md → List Md
  | [] => []
  | .G :: _ => []
  | m :: ms => m :: strip ms
def hasG : List Md → Bool
  | [] => false
  | .G :: _ => true
  | _ :: ms => hasG ms
/-- the store's mode stands last -/
def wfG : List Md → Bool
  | [] => true
  | [.G] => true
  | .G :: _ => false
  | _ :: ms => wfG ms
def mA : Md → V → List Addr
  | .M, .ref a => [a]
  | _, _ => []
def mAddrs : List Md → List V → List Addr
  | [], _ => []
  | _ :: _, [] => []
  | m :: ms, v :: vs => mA m v ++ mAddrs ms vs
inductive ArgsOk (K : Fg) (O : List Addr) (H : Hp) (Ms : List Addr) : List Md → List V → List D → Prop
  | nil : ArgsOk K O H Ms [] [] []
  | S {v : V} {d : D} {ms : List Md} {vs : List V} {ds : List D} : Rep K (hide O H) v d → ArgsOk K O H Ms ms vs ds → ArgsOk K O H Ms (.S :: ms) (v :: vs) (d :: ds)
  | B {v : V} {d : D} {ms : List Md} {vs : List V} {ds : List D} : (Rep K (hide O H) v d ∨ ∃ l o, v = .ref l ∧ H l = some o ∧ (l ∉ Ms ∧ ¬ Pv H l) ∧ OwnOk K (hide O H) o d) → ArgsOk K O H Ms ms vs ds → ArgsOk K O H Ms (.B :: ms) (v :: vs) (d :: ds)
  | M {l : Addr} {o : HO} {d : D} {ms : List Md} {vs : List V} {ds : List D} : l ∈ O → H l = some o → OwnOk K (hide O H) o d → ArgsOk K O H Ms ms vs ds → ArgsOk K O H Ms (.M :: ms) (.ref l :: vs) (d :: ds)
inductive MsOk (K : Fg) (O : List Addr) (H : Hp) : List Md → List V → List D → Prop
  | nil : MsOk K O H [] [] []
  | S {v : V} {ms : List Md} {vs : List V} {ds : List D} : MsOk K O H ms vs ds → MsOk K O H (.S :: ms) (v :: vs) ds
  | B {v : V} {ms : List Md} {vs : List V} {ds : List D} : MsOk K O H ms vs ds → MsOk K O H (.B :: ms) (v :: vs) ds
  | M {l : Addr} {o : HO} {d : D} {ms : List Md} {vs : List V} {ds : List D} : H l = some o → OwnOk K (hide O H) o d → MsOk K O H ms vs ds → MsOk K O H (.M :: ms) (.ref l :: vs) (d :: ds)
/-- what holds behind a def's end; P: what else may have changed -/
structure PostP (P : Addr → Prop) (K : Fg) (O : List Addr) (H : Hp) (ms : List Md) (vs : List V) (H' : Hp) (O' : List Addr) : Prop where
  sub : ∀ a ∈ O, a ∈ O'
  new : ∀ a ∈ O', a ∈ O ∨ H a = none
  al : ∀ a ∈ O', Tk (H' a)
  fr : ∀ a o, H a = some o → a ∉ mAddrs ms vs → ¬ P a → H' a = some o
  pv : PvOk H O' H'
  pc : ∀ a, P a → H a ≠ none → H' a ≠ none
def NoP : Addr → Prop := fun _ => False
/-- the parameters that change are different ones; the private cells are apart -/
def NdOk (ms : List Md) (vs : List V) (O : List Addr) (H : Hp) : Prop := (mAddrs ms vs).Nodup ∧ PvOk H O H
/-- what a def promises: the arguments, what is wanted of the answer (is it a new object; the datum; what the changed parameters hold), of an error (its class, its fields) -/
abbrev EdT := Str → List (Str × D) → List D → Prop
/-- the dict of an exception that a callee lets out -/
def XdOk (K : Fg) (H H' : Hp) (d : Option Addr) (fds : List (Str × D)) : Prop := (d = none ∧ fds = []) ∨ ∃ dx fvs, d = some dx ∧ H dx = none ∧ H' dx = some (.xd fvs) ∧ fvs.map (·.1) = fds.map (·.1) ∧ Reps K (fun _ => none) (fvs.map (·.2)) (fds.map (·.2))
abbrev DSp := List D → (Bool → D → List D → Prop) → EdT → Prop
def ResOk (K : Fg) (H : Hp) (H' : Hp) (O' : List Addr) (v : V) : Bool → D → Prop
  | true, d => (∃ p o, v = .ref p ∧ p ∈ O' ∧ H p = none ∧ H' p = some o ∧ OwnOk K (hide O' H') o d) ∨ ∃ a ds p l v0 vs, d = .tup [a, .lst ds] ∧ v = .ref p ∧ H' p = some (.tup [v0, .ref l]) ∧ p ∉ O' ∧ l ∉ O' ∧ H' l = some (.lst vs) ∧ (H l = none ∧ ¬ Pv H' l) ∧ Rep K (hide O' H') v0 a ∧ Reps K (hide O' H') vs ds
  | false, d => Rep K (hide O' H') v d
/-- what may change besides: the store's cells, where the def is handed the store -/
def PstG (ms : List Md) (H : Hp) : Addr → Prop := if hasG ms = true then Pv H else NoP
def stoL (ms : List Md) (S : Stor) : List D := if hasG ms = true then [.sto S] else []
def StG (ms : List Md) (K : Fg) (O : List Addr) (H : Hp) (S : Stor) : Prop := hasG ms = true → StO K O H S
theorem PstG.pv {ms : List Md} {H : Hp} {a : Addr} (h : PstG ms H a) : Pv H a := by
  unfold PstG at h
  split at h
  · exact h
  · exact h.elim
def spD (K : Fg) (ms : List Md) (sd : DSp) : Sp := fun vs H Q E => ∃ (O : List Addr) (ds : List D) (S : Stor) (Qd : Bool → D → List D → Prop) (Ed : EdT), ArgsOk K O H (mAddrs (strip ms) vs) (strip ms) vs ds ∧ (∀ a ∈ O, Tk (H a)) ∧ NdOk (strip ms) vs O H ∧ StG ms K O H S ∧ sd (ds ++ stoL ms S) Qd Ed ∧
  (∀ v H' O' b d ds' S', PostP (PstG ms H) K O H (strip ms) vs H' O' → MsOk K O' H' (strip ms) vs ds' → StG ms K O' H' S' → ResOk K H H' O' v b d → Qd b d (ds' ++ stoL ms S') → Q v H') ∧
  (∀ n c d H' O' fds ds' S', PostP (PstG ms H) K O H (strip ms) vs H' O' → MsOk K O' H' (strip ms) vs ds' → StG ms K O' H' S' → XNm K n c → XdOk K H H' d fds → Ed n fds (ds' ++ stoL ms S') → E (.ref c) d H')
theorem ArgsOk.len {K : Fg} {O : List Addr} {H : Hp} {Ms : List Addr} : ∀ {ms : List Md} {vs : List V} {ds : List D}, ArgsOk K O H Ms ms vs ds → vs.length = ms.length ∧ ds.length = ms.length
  | _, _, _, .nil => ⟨rfl, rfl⟩
  | _, _, _, .S _ t => ⟨by rw [List.length_cons, List.length_cons, t.len.1], by rw [List.length_cons, List.length_cons, t.len.2]⟩
  | _, _, _, .B _ t => ⟨by rw [List.length_cons, List.length_cons, t.len.1], by rw [List.length_cons, List.length_cons, t.len.2]⟩
  | _, _, _, .M _ _ _ t => ⟨by rw [List.length_cons, List.length_cons, t.len.1], by rw [List.length_cons, List.length_cons, t.len.2]⟩
/-! ### the callee's side -/
def sl0 : Md → D → Sl
  | .S, d => .sh d
  | .B, d => .bo d
  | .M, d => .io d
  | .G, .sto S => .st S
  | .G, _ => .no
def env0 : List Md → List D → Env
  | [], _ => []
  | _ :: _, [] => []
  | m :: ms, d :: ds => sl0 m d :: env0 ms ds
def io1 : Md → Option Sl → List D
  | .M, some (.io d) => [d]
  | .G, some (.st S) => [.sto S]
  | .G, _ => [.sto []]
  | _, _ => []
def iosD : List Md → Env → List D
  | [], _ => []
  | m :: ms, Γ => io1 m Γ.head? ++ iosD ms Γ.tail
def mListA : Nat → List Md → List V → List (Nat × Addr)
  | _, [], _ => []
  | _, _ :: _, [] => []
  | i, m :: ms, v :: vs => (mA m v).map (fun a => (i, a)) ++ mListA (i + 1) ms vs
def bL (i : Nat) : Md → V → List (Nat × V)
  | .B, v => [(i, v)]
  | _, _ => []
def bListA : Nat → List Md → List V → List (Nat × V)
  | _, [], _ => []
  | _, _ :: _, [] => []
  | i, m :: ms, v :: vs => bL i m v ++ bListA (i + 1) ms vs
theorem mListA_addr : ∀ (ms : List Md) (vs : List V) (i j : Nat) (a : Addr), (j, a) ∈ mListA i ms vs → a ∈ mAddrs ms vs
  | [], _, _, _, _, h => by cases h
  | _ :: _, [], _, _, _, h => by cases h
  | m :: ms, v :: vs, i, j, a, h => by
    unfold mListA at h
    unfold mAddrs
    rcases List.mem_append.mp h with h | h
    · obtain ⟨b, hb, e⟩ := List.mem_map.mp h
      cases e
      exact List.mem_append_left _ hb
    · exact List.mem_append_right _ (mListA_addr ms vs (i + 1) j a h)
/-- slot by slot, at an entry -/
theorem args_at {K : Fg} {O : List Addr} {H : Hp} {Ms : List Addr} {ms : List Md} {vs : List V} {ds : List D} (A : ArgsOk K O H Ms ms vs ds) : ∀ (i k : Nat) (s : Sl), (env0 ms ds)[i]? = some s → ∃ v, vs[i]? = some v ∧
    ((∃ d, s = .sh d ∧ Rep K (hide O H) v d) ∨ (∃ d, s = .bo d ∧ (k + i, v) ∈ bListA k ms vs ∧ (Rep K (hide O H) v d ∨ ∃ l o, v = .ref l ∧ H l = some o ∧ (l ∉ Ms ∧ ¬ Pv H l) ∧ OwnOk K (hide O H) o d)) ∨ ∃ d l o, s = .io d ∧ v = .ref l ∧ (k + i, l) ∈ mListA k ms vs ∧ l ∈ O ∧ H l = some o ∧ OwnOk K (hide O H) o d) := by
  induction A with
  | nil => intro i k s h; cases h
  | S hr t ih =>
    intro i k s h
    cases i with
    | zero => cases h; exact ⟨_, rfl, .inl ⟨_, rfl, hr⟩⟩
    | succ i =>
      obtain ⟨w, e, q⟩ := ih i (k + 1) s h
      refine ⟨w, e, ?_⟩
      have ek : k + (i + 1) = k + 1 + i := by omega
      rw [ek]
      rcases q with q | ⟨d, e1, q1, q2⟩ | ⟨d, l, o, e1, e2, q1, q2⟩
      · exact .inl q
      · exact .inr (.inl ⟨d, e1, List.mem_append_right _ q1, q2⟩)
      · exact .inr (.inr ⟨d, l, o, e1, e2, List.mem_append_right _ q1, q2⟩)
  | B hr t ih =>
    intro i k s h
    cases i with
    | zero => cases h; exact ⟨_, rfl, .inr (.inl ⟨_, rfl, List.mem_append_left _ (List.mem_singleton.mpr rfl), hr⟩)⟩
    | succ i =>
      obtain ⟨w, e, q⟩ := ih i (k + 1) s h
      refine ⟨w, e, ?_⟩
      have ek : k + (i + 1) = k + 1 + i := by omega
      rw [ek]
      rcases q with q | ⟨d, e1, q1, q2⟩ | ⟨d, l, o, e1, e2, q1, q2⟩
      · exact .inl q
      · exact .inr (.inl ⟨d, e1, List.mem_append_right _ q1, q2⟩)
      · exact .inr (.inr ⟨d, l, o, e1, e2, List.mem_append_right _ q1, q2⟩)
  | M h1 h2 h3 t ih =>
    intro i k s h
    cases i with
    | zero => cases h; exact ⟨_, rfl, .inr (.inr ⟨_, _, _, rfl, rfl, List.mem_append_left _ (List.mem_singleton.mpr rfl), h1, h2, h3⟩)⟩
    | succ i =>
      obtain ⟨w, e, q⟩ := ih i (k + 1) s h
      refine ⟨w, e, ?_⟩
      have ek : k + (i + 1) = k + 1 + i := by omega
      rw [ek]
      rcases q with q | ⟨d, e1, q1, q2⟩ | ⟨d, l, o, e1, e2, q1, q2⟩
      · exact .inl q
      · exact .inr (.inl ⟨d, e1, List.mem_append_right _ q1, q2⟩)
      · exact .inr (.inr ⟨d, l, o, e1, e2, List.mem_append_right _ q1, q2⟩)
theorem mA_S {v : V} : mA .S v = [] := by cases v <;> rfl
theorem mA_B {v : V} : mA .B v = [] := by cases v <;> rfl
theorem mList_at {K : Fg} {O : List Addr} {H : Hp} {Ms : List Addr} {ms : List Md} {vs : List V} {ds : List D} (A : ArgsOk K O H Ms ms vs ds) : ∀ (k : Nat) (q : Nat × Addr), q ∈ mListA k ms vs → ∃ i, q.1 = k + i ∧ vs[i]? = some (.ref q.2) ∧ ∃ d, (env0 ms ds)[i]? = some (.io d) := by
  induction A with
  | nil => intro k q h; cases h
  | S hr t ih =>
    intro k q h
    unfold mListA at h
    rw [mA_S] at h
    obtain ⟨i, e, e1, d, e2⟩ := ih (k + 1) q h
    exact ⟨i + 1, by omega, e1, d, e2⟩
  | B hr t ih =>
    intro k q h
    unfold mListA at h
    rw [mA_B] at h
    obtain ⟨i, e, e1, d, e2⟩ := ih (k + 1) q h
    exact ⟨i + 1, by omega, e1, d, e2⟩
  | M h1 h2 h3 t ih =>
    intro k q h
    unfold mListA at h
    rcases List.mem_append.mp h with h | h
    · have e : q = (k, _) := List.mem_singleton.mp h
      subst e
      exact ⟨0, rfl, rfl, _, rfl⟩
    · obtain ⟨i, e, e1, d, e2⟩ := ih (k + 1) q h
      exact ⟨i + 1, by omega, e1, d, e2⟩
theorem bList_at {K : Fg} {O : List Addr} {H : Hp} {Ms : List Addr} {ms : List Md} {vs : List V} {ds : List D} (A : ArgsOk K O H Ms ms vs ds) : ∀ (k : Nat) (q : Nat × V), q ∈ bListA k ms vs → ∃ i, q.1 = k + i ∧ vs[i]? = some q.2 ∧ ∃ d, (env0 ms ds)[i]? = some (.bo d) := by
  induction A with
  | nil => intro k q h; cases h
  | S hr t ih =>
    intro k q h
    obtain ⟨i, e, e1, d, e2⟩ := ih (k + 1) q h
    exact ⟨i + 1, by omega, e1, d, e2⟩
  | B hr t ih =>
    intro k q h
    unfold bListA at h
    rcases List.mem_append.mp h with h | h
    · have e : q = (k, _) := List.mem_singleton.mp h
      subst e
      exact ⟨0, rfl, rfl, _, rfl⟩
    · obtain ⟨i, e, e1, d, e2⟩ := ih (k + 1) q h
      exact ⟨i + 1, by omega, e1, d, e2⟩
  | M h1 h2 h3 t ih =>
    intro k q h
    obtain ⟨i, e, e1, d, e2⟩ := ih (k + 1) q h
    exact ⟨i + 1, by omega, e1, d, e2⟩
theorem mNodup : ∀ (ms : List Md) (vs : List V) (k i j : Nat) (a : Addr), (mAddrs ms vs).Nodup → (i, a) ∈ mListA k ms vs → (j, a) ∈ mListA k ms vs → i = j
  | [], _, _, _, _, _, _, h, _ => by cases h
  | _ :: _, [], _, _, _, _, _, h, _ => by cases h
  | m :: ms, v :: vs, k, i, j, a, n, h1, h2 => by
    unfold mAddrs at n
    obtain ⟨_, n2, n3⟩ := List.nodup_append.mp n
    unfold mListA at h1 h2
    have hd : ∀ {i : Nat}, (i, a) ∈ (mA m v).map (fun a => (k, a)) → i = k ∧ a ∈ mA m v := fun {i} h => by
      obtain ⟨b, hb, e⟩ := List.mem_map.mp h
      cases e
      exact ⟨rfl, hb⟩
    rcases List.mem_append.mp h1 with h1 | h1
    · rcases List.mem_append.mp h2 with h2 | h2
      · rw [(hd h1).1, (hd h2).1]
      · exact absurd rfl (n3 a (hd h1).2 a (mListA_addr _ _ _ _ _ h2))
    · rcases List.mem_append.mp h2 with h2 | h2
      · exact absurd rfl (n3 a (hd h2).2 a (mListA_addr _ _ _ _ _ h1))
      · exact mNodup ms vs (k + 1) i j a n2 h1 h2
def ctx0 (K : Fg) (O : List Addr) (H : Hp) (ms : List Md) (vs : List V) : Ctx := ⟨K, H, O, mListA 0 (strip ms) vs, bListA 0 (strip ms) vs, [], [], [], PstG ms H, (strip ms).length⟩
def startD (N : List Str) (ms : List Md) (ds : List D) : Env := env0 ms ds ++ List.replicate (N.length - ds.length) .no
theorem env0_len {K : Fg} {O : List Addr} {H : Hp} {Ms : List Addr} {ms : List Md} {vs : List V} {ds : List D} (A : ArgsOk K O H Ms ms vs ds) : (env0 ms ds).length = ds.length := by
  induction A with
  | nil => rfl
  | S _ _ ih => unfold env0; rw [List.length_cons, List.length_cons, ih]
  | B _ _ ih => unfold env0; rw [List.length_cons, List.length_cons, ih]
  | M _ _ _ _ ih => unfold env0; rw [List.length_cons, List.length_cons, ih]
theorem relO_start0 {K : Fg} {O : List Addr} {H : Hp} {ms : List Md} {vs : List V} {ds : List D} {N : List Str} (A : ArgsOk K O H (mAddrs (strip ms) vs) (strip ms) vs ds) (al : ∀ a ∈ O, Tk (H a)) (nd : NdOk (strip ms) vs O H) : RelO (ctx0 K O H ms vs) (startD N (strip ms) ds) O (L2.start N vs) H := by
  have el := env0_len A
  have vl := A.len
  have atG : ∀ {i : Nat} {s : Sl}, (startD N (strip ms) ds)[i]? = some s → s = .no ∨ (env0 (strip ms) ds)[i]? = some s := fun {i s} h => by
    unfold startD at h
    by_cases hi : i < (env0 (strip ms) ds).length
    · rw [List.getElem?_append_left hi] at h; exact .inr h
    · rw [List.getElem?_append_right (by omega), List.getElem?_replicate] at h
      split at h
      · cases h; exact .inl rfl
      · cases h
  have atS : ∀ {i : Nat} {v : V}, vs[i]? = some v → (L2.start N vs)[i]? = some (some v) := fun {i v} h => by
    have hi := (List.getElem?_eq_some_iff.mp h).1
    unfold L2.start
    rw [List.getElem?_append_left (by simpa using hi), List.getElem?_map, h]; rfl
  have inG : ∀ {i : Nat} {s : Sl}, (env0 (strip ms) ds)[i]? = some s → (startD N (strip ms) ds)[i]? = some s := fun {i s} h => by
    have hi := (List.getElem?_eq_some_iff.mp h).1
    unfold startD
    rw [List.getElem?_append_left hi]; exact h
  have mutA : ∀ {i : Nat} {a : Addr}, MutAt (startD N (strip ms) ds) (L2.start N vs) i a → (i, a) ∈ mListA 0 (strip ms) vs := fun {i a} hh => by
    rcases hh with ⟨⟨d, h⟩, h2⟩ | ⟨b, P, o, h, _⟩
    rotate_left
    · rcases atG h with z | z
      · cases z
      · obtain ⟨v, _, q⟩ := args_at A _ 0 _ z
        rcases q with ⟨_, q, _⟩ | ⟨_, q, _⟩ | ⟨_, _, _, q, _⟩ <;> cases q
    have h' : (startD N (strip ms) ds)[i]? = some (.io d) := by
      rcases h with h | h
      · rcases atG h with z | z
        · cases z
        · obtain ⟨v, _, q⟩ := args_at A _ 0 _ z
          rcases q with ⟨_, q, _⟩ | ⟨_, q, _⟩ | ⟨_, _, _, q, _⟩ <;> cases q
      · exact h
    rcases atG h' with z | z
    · cases z
    · obtain ⟨v, hv, q⟩ := args_at A _ 0 _ z
      rcases q with ⟨_, q, _⟩ | ⟨_, q, _⟩ | ⟨_, l, _, _, e, q, _⟩
      · cases q
      · cases q
      · subst e
        rw [atS hv] at h2
        cases h2
        simpa using q
  refine ⟨fun i s h => ?_, fun i j a n h1 h2 => n (mNodup _ _ 0 _ _ _ nd.1 (mutA h1) (mutA h2)), fun a o h _ => h, nd.2, fun a z => ⟨fun e => nd.2.gone e z.pv, fun e => nd.2.gone e z.pv⟩, fun q hq => ?_, fun q hq => ?_, fun a h => h, al, fun a h => .inl h, fun a h => (al a h).ne, fun q hq => absurd hq (by simp [ctx0]), fun q hq => absurd hq (by simp [ctx0]), ?_⟩
  · rcases atG h with z | z
    · subst z; trivial
    · obtain ⟨v, hv, q⟩ := args_at A _ 0 _ z
      rcases q with ⟨d, e, q⟩ | ⟨d, e, q1, q⟩ | ⟨d, l, o, e, e2, q1, q2, q3, q4⟩
      · subst e; exact ⟨v, atS hv, q⟩
      · subst e
        refine ⟨v, atS hv, by rw [Nat.zero_add] at q1; exact q1, ?_⟩
        rcases q with q | ⟨l, o, e3, q3, q4, q5⟩
        · exact .inl q
        · exact .inr ⟨l, o, e3, q3, ⟨⟨fun p hp z => q4.1 (z ▸ mListA_addr _ _ 0 p.1 _ hp), fun z => q4.2 z.pv⟩, q4.2⟩, q5⟩
      · subst e e2; exact ⟨l, o, atS hv, by rw [Nat.zero_add] at q1; exact q1, q2, q3, q4⟩
  · obtain ⟨i, e, e1, d, e2⟩ := mList_at A 0 q (show q ∈ mListA 0 (strip ms) vs from hq)
    rw [show q.1 = i by omega]
    exact .inl ⟨atS e1, d, inG e2⟩
  · obtain ⟨i, e, e1, d, e2⟩ := bList_at A 0 q (show q ∈ bListA 0 (strip ms) vs from hq)
    rw [show q.1 = i by omega]
    exact ⟨atS e1, d, inG e2⟩
  · unfold startD L2.start
    rw [List.length_append, List.length_append, List.length_replicate, List.length_replicate, List.length_map, el, vl.1, vl.2]
/-- a slot for the store -/
theorem RelO.setSt {C : Ctx} {Γ : Env} {O : List Addr} {σ : L2.St} {H : Hp} {S : Stor} (R : RelO C Γ O σ H) (hi : Γ[C.G]? = some .no ∨ ∃ S0, Γ[C.G]? = some (.st S0)) (hp : ∀ a, Pv C.H0 a → C.P a) (hs : StO C.K O H S) : RelO C (Γ.set C.G (.st S)) O σ H := by
  have f : Free Γ C.G := by
    rcases hi with e | ⟨S0, e⟩ <;> exact ⟨fun d z => (by rw [e] at z; cases z), fun d z => (by rw [e] at z; cases z), fun P z => (by rw [e] at z; cases z)⟩
  have hil : C.G < σ.length := by
    rw [← R.len]
    rcases hi with e | ⟨S0, e⟩ <;> exact (List.getElem?_eq_some_iff.mp e).1
  have nm : ∀ {x : Option V} {a : Addr}, ¬ MutAt (Γ.set C.G (.st S)) (σ.set C.G x) C.G a := fun {x a} h => by
    rcases h with ⟨⟨d', h | h⟩, _⟩ | ⟨b, P, o, h, _⟩ <;> cases get_set_same h
  have := R.set (i := C.G) f (s := .st S) (x := (σ[C.G]?).getD none) (fun _ => ⟨rfl, hp, hs⟩) (fun j a _ _ h => nm h) fun _ _ => nm
  have e : σ.set C.G ((σ[C.G]?).getD none) = σ := by
    refine List.ext_getElem? fun j => ?_
    by_cases hj : C.G = j
    · subst hj
      rw [List.getElem?_set_self hil, List.getElem?_eq_getElem hil]; rfl
    · rw [List.getElem?_set_ne hj]
  rwa [e] at this
theorem strip_split : ∀ {ms : List Md}, wfG ms = true → ms = strip ms ++ (if hasG ms = true then [.G] else [])
  | [], _ => rfl
  | [.G], _ => rfl
  | .G :: _ :: _, h => by cases h
  | .S :: ms, h => congrArg (Md.S :: ·) (strip_split (ms := ms) h)
  | .B :: ms, h => congrArg (Md.B :: ·) (strip_split (ms := ms) h)
  | .M :: ms, h => congrArg (Md.M :: ·) (strip_split (ms := ms) h)
theorem env0_app : ∀ {ms ms' : List Md} {ds ds' : List D}, ms.length = ds.length → env0 (ms ++ ms') (ds ++ ds') = env0 ms ds ++ env0 ms' ds'
  | [], _, [], _, _ => rfl
  | [], _, _ :: _, _, h => by cases h
  | _ :: _, _, [], _, h => by cases h
  | m :: ms, ms', d :: ds, ds', h => by
    rw [List.cons_append, List.cons_append, env0, env0, List.cons_append, env0_app (by simpa using h)]
theorem relO_start {K : Fg} {O : List Addr} {H : Hp} {ms : List Md} {vs : List V} {ds : List D} {S : Stor} {N : List Str} (A : ArgsOk K O H (mAddrs (strip ms) vs) (strip ms) vs ds) (al : ∀ a ∈ O, Tk (H a)) (nd : NdOk (strip ms) vs O H) (wf : wfG ms = true) (hS : StG ms K O H S) (hN : ms.length ≤ N.length) : RelO (ctx0 K O H ms vs) (startD N ms (ds ++ stoL ms S)) O (L2.start N vs) H := by
  have R := relO_start0 (N := N) A al nd
  have hl := A.len.2
  by_cases hg : hasG ms = true
  · have e := strip_split wf
    rw [if_pos hg] at e
    have el : ms.length = (strip ms).length + 1 := by
      have := congrArg List.length e
      rw [List.length_append] at this
      exact this
    have e0 := env0_len A
    have eΓ : startD N ms (ds ++ stoL ms S) = (startD N (strip ms) ds).set (strip ms).length (.st S) := by
      unfold startD stoL
      rw [if_pos hg]
      have e1 : env0 ms (ds ++ [.sto S]) = env0 (strip ms) ds ++ [.st S] := by
        have := env0_app (ms := strip ms) (ms' := [.G]) (ds := ds) (ds' := [.sto S]) hl.symm
        rw [← e] at this
        exact this
      rw [e1, List.length_append, List.length_singleton]
      have e2 : N.length - ds.length = (N.length - (ds.length + 1)) + 1 := by omega
      rw [e2, List.replicate_succ]
      have e3 : (strip ms).length = (env0 (strip ms) ds).length := by rw [e0, hl]
      rw [e3, List.set_append_right _ _ (Nat.le_refl _), Nat.sub_self, List.append_assoc]
      rfl
    rw [eΓ]
    refine R.setSt (C := ctx0 K O H ms vs) (.inl ?_) (fun a z => ?_) (hS hg)
    · show (startD N (strip ms) ds)[(strip ms).length]? = some .no
      unfold startD
      rw [List.getElem?_append_right (by rw [e0, hl]; exact Nat.le_refl _), List.getElem?_replicate, if_pos (by rw [e0]; omega)]
    · show PstG ms H a
      unfold PstG
      rw [if_pos hg]; exact z
  · have e := strip_split wf
    rw [if_neg hg, List.append_nil] at e
    unfold stoL
    rw [if_neg hg, List.append_nil]
    rw [← e] at R
    exact R
/-- what the changed parameters hold at the end -/
theorem ms_end {K : Fg} {O O' : List Addr} {H H' : Hp} {Ms : List Addr} {ms : List Md} {vs : List V} {ds : List D} (A : ArgsOk K O H Ms ms vs ds) : ∀ (Γ : Env) (k : Nat),
    (∀ i l, (k + i, l) ∈ mListA k ms vs → ∃ d o, Γ[i]? = some (.io d) ∧ H' l = some o ∧ OwnOk K (hide O' H') o d) → MsOk K O' H' ms vs (iosD ms Γ) := by
  induction A with
  | nil => intro Γ k _; exact .nil
  | S hr t ih =>
    intro Γ k h
    unfold iosD
    refine .S (ih Γ.tail (k + 1) fun i l hm => ?_)
    obtain ⟨d, o, e, q⟩ := h (i + 1) l (by rw [show k + (i + 1) = k + 1 + i by omega]; exact List.mem_append_right _ hm)
    exact ⟨d, o, by rw [List.getElem?_tail]; exact e, q⟩
  | B hr t ih =>
    intro Γ k h
    unfold iosD
    refine .B (ih Γ.tail (k + 1) fun i l hm => ?_)
    obtain ⟨d, o, e, q⟩ := h (i + 1) l (by rw [show k + (i + 1) = k + 1 + i by omega]; exact List.mem_append_right _ hm)
    exact ⟨d, o, by rw [List.getElem?_tail]; exact e, q⟩
  | M h1 h2 h3 t ih =>
    intro Γ k h
    obtain ⟨d, o, e, q1, q2⟩ := h 0 _ (List.mem_append_left _ (List.mem_singleton.mpr rfl))
    unfold iosD
    rw [List.head?_eq_getElem?, e]
    refine .M q1 q2 (ih Γ.tail (k + 1) fun i l hm => ?_)
    obtain ⟨d, o, e, q⟩ := h (i + 1) l (by rw [show k + (i + 1) = k + 1 + i by omega]; exact List.mem_append_right _ hm)
    exact ⟨d, o, by rw [List.getElem?_tail]; exact e, q⟩
/-- the ends of a def's body over data -/
def endsD (ms : List Md) (Qd : Bool → D → List D → Prop) : DEnds where
  nx := fun Γ => Qd false .non (iosD ms Γ)
  rt := fun r Γ => match r with
    | .val d => Qd false d (iosD ms Γ)
    | .fr d => Qd true d (iosD ms Γ)
    | .pl i => ∃ d, Γ[i]? = some (.ow d) ∧ Qd true d (iosD ms Γ)
    | .np a ds => Qd true (.tup [a, .lst ds]) (iosD ms Γ)
    | .hd _ => False
theorem iosD_app : ∀ {ms ms' : List Md} {Γ : Env}, iosD (ms ++ ms') Γ = iosD ms Γ ++ iosD ms' (Γ.drop ms.length)
  | [], _, Γ => by rw [List.nil_append, iosD, List.nil_append]; rfl
  | m :: ms, ms', Γ => by
    rw [List.cons_append, iosD, iosD, iosD_app, List.append_assoc, List.length_cons]
    congr 3
    cases Γ <;> simp
theorem post_of {K : Fg} {O O' : List Addr} {H H' : Hp} {ms : List Md} {vs : List V} {ds : List D} {Γ : Env} {σ : St} (wf : wfG ms = true) (A : ArgsOk K O H (mAddrs (strip ms) vs) (strip ms) vs ds) (R : RelO (ctx0 K O H ms vs) Γ O' σ H') : PostP (PstG ms H) K O H (strip ms) vs H' O' ∧ MsOk K O' H' (strip ms) vs (iosD (strip ms) Γ) ∧ ∃ S', StG ms K O' H' S' ∧ iosD ms Γ = iosD (strip ms) Γ ++ stoL ms S' := by
  refine ⟨⟨R.oo, R.ol, R.al, fun a o h n np => R.fr a o h ⟨fun p hp z => n (by rw [← z]; exact mListA_addr _ _ 0 p.1 _ hp), np⟩, R.pv, fun a h _ => (R.pc a h).2⟩, ms_end A Γ 0 fun i l hm => ?_, ?_⟩
  · rw [Nat.zero_add] at hm
    obtain ⟨h1, d, h2⟩ : σ[i]? = some (some (.ref l)) ∧ ∃ d, Γ[i]? = some (.io d) := by
      rcases R.mm (i, l) hm with z | ⟨z, _⟩
      · exact z
      · exact absurd z (by simp [ctx0])
    obtain ⟨l', o, h3, _, _, h4, h5⟩ := R.sl i _ h2
    rw [show σ[i]? = some (some (.ref l)) from h1] at h3
    cases h3
    exact ⟨d, o, h2, h4, h5⟩
  · have e := strip_split wf
    by_cases hg : hasG ms = true
    · rw [if_pos hg] at e
      have e1 : iosD ms Γ = iosD (strip ms) Γ ++ iosD [.G] (Γ.drop (strip ms).length) := by
        have := iosD_app (ms := strip ms) (ms' := [.G]) (Γ := Γ)
        rwa [← e] at this
      have emp : StG ms K O' H' [] := fun _ a d z => by cases z
      unfold stoL
      simp only [if_pos hg]
      rw [e1]
      cases q : Γ[(strip ms).length]? with
      | none => exact ⟨[], emp, by simp [iosD, io1, List.head?_drop, q]⟩
      | some s =>
        cases s with
        | st S =>
          have k := R.sl _ _ q
          exact ⟨S, fun _ => k.2.2, by simp [iosD, io1, List.head?_drop, q]⟩
        | _ => exact ⟨[], emp, by simp [iosD, io1, List.head?_drop, q]⟩
    · rw [if_neg hg, List.append_nil] at e
      refine ⟨[], fun z => absurd z hg, ?_⟩
      unfold stoL
      rw [if_neg hg, List.append_nil, ← e]
end DL
/-! the data layer, part 9: defs and their calls -/
namespace DL
open PySem PySem.Spec PyProof.Rows L2
/-- a def keeps its promise wherever nothing is being shown (no repr is under way) -/
structure FnG (P : Program) (w : World) (K : Fg) (mg : Str → Option Value) (base : Heap) (k : Nat) (f : Addr) (fd : FuncData) (ps : List Str) (sp : Sp) : Prop where
  len : ∀ vs H Q E, sp vs H Q E → vs.length = ps.length
  go : ∀ (A : Around), A.guards = some [] → Room k A → ∀ (outer : List PySem.Env) (s : Shared) (H : Hp) (args : Args) (us : List Value) (vs : List V) (Q : VK) (E : XK),
    Env0 P w K mg base A outer s H → BindsTo s fd args (ps.zip us) → Vals vs us → sp vs H Q E → codeAny (model P w) A (.call (.ref f) args) (CR (L2N.CX P w) outer P w H s Q E) s
section
variable {P : Program} {w : World} {K : Fg} {mg : Str → Option Value} {base : Heap} {k : Nat} {f : Addr} {fd : FuncData} {ps : List Str} {sp : Sp}
theorem FnG.mono {j : Nat} (F : FnG P w K mg base j f fd ps sp) (h : j ≤ k) : FnG P w K mg base k f fd ps sp := ⟨F.len, fun A g hr => F.go A g (hr.mono h)⟩
/-- a def of the text, by its body -/
theorem fn_g {x qual : Str} {st : Stmt} {N : List Str} (F : Fun K x qual st f fd) (S : FnScope N ps (defScope st)) (len : ∀ vs H Q E, sp vs H Q E → vs.length = ps.length)
    (body : ∀ (cdv : Value) (A : Around) (outer : List PySem.Env) (s : Shared) (H : Hp) (vs : List V) (Q : VK) (E : XK), (A.deeper (envOfC qual (defScope st) s.heap.objs.size f cdv)).guards = some [] → Room k (A.deeper (envOfC qual (defScope st) s.heap.objs.size f cdv)) → sp vs H Q E →
      ∃ t, PSs (cxOf (L2N.CX P w) P w K mg base N qual (defScope st) f cdv A outer s H E) (defBody st) t ∧ t { nx := fun _ H' => Q .non H', rt := Q } (L2.start N vs) H) : FnG P w K mg base (k + 1) f fd ps sp := by
  obtain ⟨oc, od, kV, doc, pm, an, cdv, ct, osl, rfl, lk, hcd⟩ := F.ex
  refine ⟨len, fun A hg hr outer s H args us vs Q E e0 hb r hsp => ?_⟩
  have hl := len _ _ _ _ hsp
  have stay : ∀ b o, base.get? b = some o → s.heap.get? b = some o := fun b o e => (e0.bs b o e).1
  have KX : K.In s.heap := e0.mod.kin.keeps stay
  have kinds : ∀ y ∈ ps.zip us, (defScope st).names.lookup y.1 = some .local ∨ ((defScope st).names.lookup y.1 = some .cell ∧ ((cellsFrom (s.heap.objs.size + 1) (defScope st).names []).lookup y.1).isSome = true) := by
    rintro ⟨n, v⟩ hy
    rcases S.par n (List.of_mem_zip hy).1 with q | q
    · exact Or.inl q
    · exact Or.inr ⟨q, PySem.W.cellsFrom_some _ _ _ (Or.inl q)⟩
  refine codeAny_call_function hr.depth (KX _ _ lk) rfl S.co S.gen rfl (PySem.W.codeRec_of KX hcd) (hb _ _ _ _ (wpAny_newFunctionEnv_cells S.kind kinds ?_))
  intro env he s1 x
  subst he
  refine ⟨(e0.mod.nolimit.keeps stay).keeps x.toInCall.keep, codeAny_func ?_⟩
  obtain ⟨t, ht, hq⟩ := body cdv A outer s H vs Q E hg (hr.deeper _) hsp
  refine wpAny_mono (ht.run [] s1 _ H _ (inv_start S hr.hd e0 hl r x) hq) ?_ fun _ _ h => h
  intro fl s' hs
  cases fl with
  | ret u =>
    obtain ⟨v, σ', H', J, rv, q⟩ := hs
    exact ⟨v, H', J.os, J.bare, J.base, J.hok, rv, q⟩
  | next =>
    obtain ⟨σ', H', J, q⟩ := hs
    exact ⟨V.non, H', J.os, J.bare, J.base, J.hok, rfl, q⟩
  | brk => exact hs.elim fun _ h => h.elim fun _ h => h.2.elim
  | cont => exact hs.elim fun _ h => h.elim fun _ h => h.2.elim
end
/-! ### a def over data -/
section
variable {P : Program} {w : World} {K : Fg} {mg : Str → Option Value} {base : Heap} {k : Nat} {f : Addr} {fd : FuncData} {ps : List Str}
theorem spD_len {ms : List Md} {sd : DSp} (hl : (strip ms).length = ps.length) : ∀ vs H Q E, spD K ms sd vs H Q E → vs.length = ps.length := fun vs H Q E ⟨O, ds, S, Qd, Ed, A, _⟩ => by rw [A.len.1, hl]
theorem stoL_len {ms : List Md} {S : Stor} {ds : List D} (wf : wfG ms = true) (h : ds.length = (strip ms).length) : (ds ++ stoL ms S).length = ms.length := by
  have e := congrArg List.length (strip_split wf)
  unfold stoL
  rw [List.length_append] at e ⊢
  by_cases hg : hasG ms = true
  · rw [if_pos hg] at e ⊢
    rw [e, h]; rfl
  · rw [if_neg hg] at e ⊢
    rw [e, h]; rfl
/-- the link at a def's end -/
theorem link_end {ms : List Md} {vs : List V} {ds : List D} {O : List Addr} {H : Hp} {Q : VK} {Qd : Bool → D → List D → Prop} (wf : wfG ms = true) (A : ArgsOk K O H (mAddrs (strip ms) vs) (strip ms) vs ds)
    (k : ∀ v H' O' b d ds' S', PostP (PstG ms H) K O H (strip ms) vs H' O' → MsOk K O' H' (strip ms) vs ds' → StG ms K O' H' S' → ResOk K H H' O' v b d → Qd b d (ds' ++ stoL ms S') → Q v H') : Link (ctx0 K O H ms vs) { nx := fun _ H' => Q .non H', rt := Q } (endsD ms Qd) where
  nx := fun Γ O' σ H' R h => by
    obtain ⟨p, m, S', hS, e⟩ := post_of wf A R
    exact k .non H' O' false .non _ S' p m hS .non (by rw [← e]; exact h)
  rt := fun r Γ O' σ H' v hr h => by
    cases r with
    | val d =>
      obtain ⟨p, m, S', hS, e⟩ := post_of wf A hr.1
      exact k v H' O' false d _ S' p m hS hr.2 (by rw [← e]; exact h)
    | fr d =>
      obtain ⟨_, q, o, rfl, h2, h3, h4, h5, R⟩ := hr
      obtain ⟨p, m, S', hS, e⟩ := post_of wf A R
      exact k _ H' (q :: O') true d _ S' p m hS (.inl ⟨q, o, rfl, List.mem_cons_self, h4, h2, h5⟩) (by rw [← e]; exact h)
    | np a ds =>
      obtain ⟨R, q, l, v0, vs, rfl, h2, h3, h4, h5, h6, h7, h8⟩ := hr
      obtain ⟨p, m, S', hS, e⟩ := post_of wf A R
      exact k _ H' O' true _ _ S' p m hS (.inr ⟨a, ds, q, l, v0, vs, rfl, rfl, h2, h3, h4, h5, h6, h7, h8⟩) (by rw [← e]; exact h)
    | hd a => exact h.elim
    | pl i =>
      obtain ⟨d, hd, h⟩ := h
      obtain ⟨p, m, S', hS, e'⟩ := post_of wf A hr.1
      obtain ⟨l, o, h1, h2, h3, h4, h5⟩ := hr.1.sl i _ hd
      have e : σ[i]? = some (some v) := hr.2
      rw [h1] at e
      cases e
      exact k _ H' O' true d _ S' p m hS (.inl ⟨l, o, rfl, h2, h3, h4, h5⟩) (by rw [← e']; exact h)
  bk := fun _ _ _ _ _ h => h.elim
  ct := fun _ _ _ _ _ h => h.elim
/-- THE RULE for a def that lets no exception out -/
theorem fn_d {x qual : Str} {st : Stmt} {N : List Str} {ms : List Md} {sd : DSp} (F : Fun K x qual st f fd) (S : FnScope N ps (defScope st)) (hl : (strip ms).length = ps.length)
    (body : ∀ (cdv : Value) (A : Around) (outer : List PySem.Env) (s : Shared) (H0 : Hp) (vs : List V) (E : XK) (O : List Addr) (H : Hp), (A.deeper (envOfC qual (defScope st) s.heap.objs.size f cdv)).guards = some [] → Room k (A.deeper (envOfC qual (defScope st) s.heap.objs.size f cdv)) →
      ∃ t m, DSs (cxOf (L2N.CX P w) P w K mg base N qual (defScope st) f cdv A outer s H0 E).nox (ctx0 K O H ms vs) (defBody st) t m ∧ ∀ ds Qd Ed, ds.length = ms.length → sd ds Qd Ed → m (endsD ms Qd) (startD N ms ds)) (wf : wfG ms = true := by rfl) (hN : ms.length ≤ N.length := by decide) : FnG P w K mg base (k + 1) f fd ps (spD K ms sd) :=
  fn_g F S (spD_len hl) fun cdv A outer s H vs Q E hg hr hsp => by
    obtain ⟨O, ds, S0, Qd, Ed, AO, al, nd, hS0, hsd, post, _⟩ := hsp
    obtain ⟨t, m, d, hm⟩ := body cdv A outer s H vs E O H hg hr
    exact ⟨t, d.pss.nox, d.sim _ _ _ _ _ _ (relO_start AO al nd wf hS0 hN) (hm _ Qd Ed (stoL_len wf AO.len.2) hsd) (link_end wf AO post)⟩
end
/-! ### a call -/
section
variable {X : Cx} {k : Nat} {f : Addr} {fd : FuncData} {ps : List Str} {sp : Sp} {dvs : List V} {ds : List Value} {x : Str} {p pos : Pos} {e : Expr} {es : List Expr} {t : TA} {E : XK}
theorem run_g {pins : List (Addr × Obj)} {σ : L2.St} {H : Hp} {s : Shared} {Q : VK} {us : List Value} {vs : List V} (F : FnG X.prog X.w X.K X.mg X.base k f fd ps sp) (hg : X.A.guards = some []) (hr : Room k X.A) (hb : Binds X.K fd ps ds) (hd : Vals dvs ds) (hx : Passes (L2N.CX X.prog X.w) X E)
    (I : Inv X pins σ H s) (r : Vals vs us) (h : sp (vs ++ dvs) H Q E) : wpAny (model X.prog X.w) X.A (call (.ref f) us) (EP X pins σ Q) X.xe s := by
  have r2 : Vals (vs ++ dvs) (us ++ ds) := r.append hd
  refine wpAny_call (codeAny_mono (F.go X.A hg hr X.stack s H ⟨us, []⟩ (us ++ ds) (vs ++ dvs) Q E I.env0 (hb s us I.kIn (by rw [← r2.length]; exact F.len _ _ _ _ h)) r2 h) ?_)
  intro r s' hq
  match r, hq with
  | .error e, hq => exact hx pins σ H s e s' I hq
  | .ok (.ret u), hq => exact I.after hq
  | .ok .next, hq => exact False.elim hq
  | .ok .brk, hq => exact False.elim hq
  | .ok .cont, hq => exact False.elim hq
theorem pe_g (F : FnG X.prog X.w X.K X.mg X.base k f fd ps sp) (hg : X.A.guards = some []) (hr : Room k X.A) (hgl : Gl X x) (hm : X.mg x = some (.ref f)) (hk : PySem.W.keepIn X.K (.ref f) = true) (hb : Binds X.K fd ps ds) (hd : Vals dvs ds) (hx : Passes (L2N.CX X.prog X.w) X E)
    (ha : PA X (e :: es) t) (hdb : (x == ("__debug__" : Str)) = false := by decide) (he : starEach (e :: es) X.env = (false, eval e X.env) :: starEach es X.env := by rfl) (hpl : (backTo pos (starEach es X.env)).any (·.1) = false := by rfl) : PE X (.Call (.Name x p) (e :: es) [] pos) (tCall sp dvs E t) :=
  ⟨fun pins s σ H Q I h => wpAny_Call_Name_kw (ld_glob I hgl hm (PySem.W.callWith_K (h₀ := X.base) I.ok.mod.kin hk (thn (ha.run pos pins s σ H _ I h) fun us s1 ⟨vs, H1, I1, r, q⟩ => ⟨I1.kIn, run_g F hg hr hb hd hx I1 r q⟩) he hpl) hdb)⟩
end
/-- the arguments over data -/
def arg1 (Γ : Env) : Md → Res → Option D
  | .S, r => dat r
  | .B, .hd _ => none
  | .B, r => rd Γ r
  | .M, .pl i => match Γ[i]? with
    | some (.ow d) => some d
    | some (.io d) => some d
    | _ => none
  | .M, _ => none
  | .G, _ => none
def argsD0 (Γ : Env) : List Md → List Res → Option (List D)
  | [], [] => some []
  | m :: ms, r :: rs => match arg1 Γ m r, argsD0 Γ ms rs with
    | some d, some ds => some (d :: ds)
    | _, _ => none
  | _, _ => none
/-- the store -/
def stOf : Env → Option Stor
  | [] => none
  | .st S :: _ => some S
  | _ :: Γ => stOf Γ
def argsD (Γ : Env) (ms : List Md) (rs : List Res) : Option (List D) := match argsD0 Γ (strip ms) rs with
  | none => none
  | some ds => match hasG ms with
    | false => some ds
    | true => match stOf Γ with
      | none => none
      | some S => some (ds ++ [.sto S])
def mPl1 : Md → Res → List Nat
  | .M, .pl i => [i]
  | _, _ => []
def mPls0 : List Md → List Res → List Nat
  | m :: ms, r :: rs => mPl1 m r ++ mPls0 ms rs
  | _, _ => []
def mPls (ms : List Md) (rs : List Res) : List Nat := mPls0 (strip ms) rs
def bPl1 : Md → Res → List Nat
  | .B, .pl i => [i]
  | _, _ => []
def bPls0 : List Md → List Res → List Nat
  | m :: ms, r :: rs => bPl1 m r ++ bPls0 ms rs
  | _, _ => []
def bPls (ms : List Md) (rs : List Res) : List Nat := bPls0 (strip ms) rs
def apartB (ms : List Md) (rs : List Res) : Bool := decide (mPls ms rs).Nodup && (bPls ms rs).all (fun i => decide (i ∉ mPls ms rs)) && wfG ms
/-- the changed places hold what the callee left there -/
def putsD0 : List Nat → List D → Env → Option Env
  | [], [], Γ => some Γ
  | i :: is, d :: ds, Γ => match setC Γ i d with
    | some Γ1 => putsD0 is ds Γ1
    | none => none
  | _, _, _ => none
def putSt (S : Stor) : Env → Env
  | [] => []
  | .st _ :: Γ => .st S :: Γ
  | s :: Γ => s :: putSt S Γ
def putsD : List Nat → List D → Env → Option Env
  | [], [], Γ => some Γ
  | [], [.sto S], Γ => some (putSt S Γ)
  | i :: is, d :: ds, Γ => match setC Γ i d with
    | some Γ1 => putsD is ds Γ1
    | none => none
  | _, _, _ => none
theorem putsD_0 : ∀ {is : List Nat} {ds : List D} {Γ : Env}, is.length = ds.length → putsD is ds Γ = putsD0 is ds Γ
  | [], [], _, _ => rfl
  | [], _ :: _, _, h => by cases h
  | _ :: _, [], _, h => by cases h
  | i :: is, d :: ds, Γ, h => by
    rw [putsD, putsD0]
    split
    · exact putsD_0 (by simpa using h)
    · rfl
theorem putsD_st : ∀ {is : List Nat} {ds : List D} {Γ Γ2 : Env} {S : Stor}, is.length = ds.length → putsD is (ds ++ [.sto S]) Γ = some Γ2 → ∃ Γ1, putsD0 is ds Γ = some Γ1 ∧ Γ2 = putSt S Γ1
  | [], [], Γ, _, _, _, h => ⟨Γ, rfl, (Option.some.inj h).symm⟩
  | [], _ :: _, _, _, _, h, _ => by cases h
  | _ :: _, [], _, _, _, h, _ => by cases h
  | i :: is, d :: ds, Γ, Γ2, S, h, e => by
    rw [List.cons_append, putsD] at e
    rw [putsD0]
    split at e
    · exact putsD_st (by simpa using h) e
    · cases e
def noX : EdT := fun _ _ _ => False
/-- a new object; or a pair with a new list -/
def frOf : D → Res
  | .tup [a, .lst ds] => .np a ds
  | d => .fr d
def mCall (ms : List Md) (sd : DSp) (ma : DTA) : DTE := fun Γ Q => ma Γ fun rs Γ1 => ∃ ds, argsD Γ1 ms rs = some ds ∧ apartB ms rs = true ∧
  sd ds (fun b d ds' => ∃ Γ2, putsD (mPls ms rs) ds' Γ1 = some Γ2 ∧ Q (if b = true then frOf d else .val d) Γ2) noX
section
variable {C : Ctx} {Γ : Env} {O O' : List Addr} {σ : L2.St} {H H' : Hp}
/-- fewer owned addresses -/
theorem RelO.shrink (R : RelO C Γ O' σ H) (hs : ∀ a ∈ O, a ∈ O') (hm : ∀ i a, MutAt Γ σ i a → a ∈ O) (hu : ∀ q ∈ C.U, q.1 ∈ O) (h0 : ∀ a ∈ C.O0, a ∈ O) : RelO C Γ O σ H ∧ Same (hide O' H) (hide O H) := by
  have e : Same (hide O' H) (hide O H) := hide_sub hs
  refine ⟨⟨fun i s es => ?_, R.ds, R.fr, R.pv.sub hs, R.pc, R.mm, R.bb, h0, fun a ha => R.al a (hs a ha), fun a ha => R.ol a (hs a ha), R.o0, fun q hq => (R.tt q hq).mono e, fun q hq => ⟨(R.uu q hq).1, hu q hq, (R.uu q hq).2.2⟩, R.len⟩, e⟩
  have q := R.sl i s es
  cases s with
  | no => trivial
  | sh d => obtain ⟨v, h1, h2⟩ := q; exact ⟨v, h1, h2.mono e⟩
  | ow d => obtain ⟨l, u, h1, h2, h3, h4, h5⟩ := q; exact ⟨l, u, h1, hm i l (.inl ⟨⟨d, .inl es⟩, h1⟩), h3, h4, h5.mono e⟩
  | io d => obtain ⟨l, u, h1, h2, h3, h4, h5⟩ := q; exact ⟨l, u, h1, h2, hm i l (.inl ⟨⟨d, .inr es⟩, h1⟩), h4, h5.mono e⟩
  | bo d =>
    obtain ⟨v, h1, h2, h3⟩ := q
    refine ⟨v, h1, h2, ?_⟩
    rcases h3 with h3 | ⟨l, u, h3, h4, h5, h6⟩
    · exact .inl (h3.mono e)
    · exact .inr ⟨l, u, h3, h4, h5, h6.mono e⟩
  | pn b P => exact ⟨q.1, fun c hc => ⟨hm i c.1 (.inr ⟨b, P, c.2, es, hc⟩), (q.2.1 c hc).2⟩, fun t ht => (q.2.2 t ht).mono e⟩
  | st S => exact ⟨q.1, q.2.1, fun a d hs => (q.2.2 a d hs).mono e fun l o _ h => h⟩
/-- the places that a call changes: slot and address -/
inductive Chg (σ : L2.St) : List Nat → List Addr → Prop
  | nil : Chg σ [] []
  | cons {i : Nat} {a : Addr} {is : List Nat} {as : List Addr} : σ[i]? = some (some (.ref a)) → Chg σ is as → Chg σ (i :: is) (a :: as)
inductive Now (K : Fg) (O : List Addr) (H : Hp) : List Addr → List D → Prop
  | nil : Now K O H [] []
  | cons {a : Addr} {o : HO} {d : D} {as : List Addr} {ds : List D} : H a = some o → OwnOk K (hide O H) o d → Now K O H as ds → Now K O H (a :: as) (d :: ds)
theorem Chg.at : ∀ {is : List Nat} {as : List Addr} {a : Addr}, Chg σ is as → a ∈ as → ∃ i ∈ is, σ[i]? = some (some (.ref a))
  | _, _, _, .nil, h => absurd h (by simp)
  | _, _, _, .cons e t, h => by
    rcases List.mem_cons.mp h with z | z
    · subst z; exact ⟨_, List.mem_cons_self, e⟩
    · obtain ⟨i, hi, q⟩ := t.at z
      exact ⟨i, List.mem_cons_of_mem _ hi, q⟩
/-- kinds of slots stay -/
theorem setC_kind {Γ' : Env} {i : Nat} {d : D} (h : setC Γ i d = some Γ') : (∃ d0, (Γ[i]? = some (.ow d0) ∧ Γ' = Γ.set i (.ow d)) ∨ (Γ[i]? = some (.io d0) ∧ Γ' = Γ.set i (.io d))) := by
  unfold setC at h
  split at h
  · rename_i d0 e; cases h; exact ⟨d0, .inl ⟨e, rfl⟩⟩
  · rename_i d0 e; cases h; exact ⟨d0, .inr ⟨e, rfl⟩⟩
  · cases h
/-- behind a call: the named slots hold the new data, at the new heap with new owned addresses -/
structure Aft (P : Addr → Prop) (C : Ctx) (Γ : Env) (O : List Addr) (σ : L2.St) (H : Hp) (as : List Addr) (O' : List Addr) (H' : Hp) : Prop where
  sub : ∀ a ∈ O, a ∈ O'
  new : ∀ a ∈ O', a ∈ O ∨ H a = none
  al : ∀ a ∈ O', Tk (H' a)
  fr : ∀ a o, H a = some o → a ∉ as → ¬ P a → H' a = some o
  pv : PvOk H O' H'
  pc : ∀ a, P a → H a ≠ none → H' a ≠ none
  pp : ∀ a, P a → Pv H a
theorem aft_same {P : Addr → Prop} {as : List Addr} (Af : Aft P C Γ O σ H as O' H') (ha : ∀ a ∈ as, a ∈ O) : Same (hide O H) (hide O' H') := fun b u e => by
  obtain ⟨n, e, nv⟩ := hide_some3 e
  have hb : b ∉ O' := fun z => by
    rcases Af.new b z with q | q
    · exact n q
    · rw [q] at e; cases e
  rw [hide_out hb fun z => (Af.pv.nw b z).elim (fun q => by rw [q] at e; cases e) nv]
  exact Af.fr b u e (fun z => n (ha b z)) fun z => nv (Af.pp b z)
theorem setC_len {Γ' : Env} {i : Nat} {d : D} (h : setC Γ i d = some Γ') : Γ'.length = Γ.length := by
  obtain ⟨d0, ⟨_, e⟩ | ⟨_, e⟩⟩ := setC_kind h <;> rw [e, List.length_set]
/-- what putsD does, slot by slot -/
theorem putsD_at : ∀ {is : List Nat} {ds : List D} {Γ Γ' : Env}, putsD0 is ds Γ = some Γ' → is.Nodup → Γ'.length = Γ.length ∧ (∀ j, j ∉ is → Γ'[j]? = Γ[j]?) ∧
    ∀ (as : List Addr), as.length = is.length → ∀ (R : Nat → Addr → D → Prop), (∀ (n i : Nat) (a : Addr) (d : D), is[n]? = some i → as[n]? = some a → ds[n]? = some d → R i a d) → ∀ (n i : Nat) (a : Addr), is[n]? = some i → as[n]? = some a → ∃ d d0, R i a d ∧ ((Γ[i]? = some (.ow d0) ∧ Γ'[i]? = some (.ow d)) ∨ (Γ[i]? = some (.io d0) ∧ Γ'[i]? = some (.io d)))
  | [], [], Γ, Γ', h, _ => by
    cases h
    exact ⟨rfl, fun _ _ => rfl, fun as hl R hR n i a h1 => by cases h1⟩
  | [], _ :: _, _, _, h, _ => by cases h
  | _ :: _, [], _, _, h, _ => by cases h
  | i :: is, d :: ds, Γ, Γ', h, nd => by
    unfold putsD0 at h
    split at h
    · rename_i Γ1 e1
      obtain ⟨n1, n2⟩ := List.nodup_cons.mp nd
      obtain ⟨l1, l2, l3⟩ := putsD_at h n2
      have hil : i < Γ.length := by
        obtain ⟨d0, ⟨e, _⟩ | ⟨e, _⟩⟩ := setC_kind e1 <;> exact (List.getElem?_eq_some_iff.mp e).1
      refine ⟨by rw [l1, setC_len e1], fun j hj => ?_, fun as hl R hR n j a h1 h2 => ?_⟩
      · rw [l2 j fun z => hj (List.mem_cons_of_mem _ z)]
        have hne : i ≠ j := fun z => hj (by simp [z])
        obtain ⟨d0, ⟨_, e⟩ | ⟨_, e⟩⟩ := setC_kind e1 <;> rw [e, get_set_ne hne]
      · cases as with
        | nil => cases h2
        | cons a' as =>
          cases n with
          | zero =>
            cases h1; cases h2
            refine ⟨d, ?_⟩
            obtain ⟨d0, ⟨e, e'⟩ | ⟨e, e'⟩⟩ := setC_kind e1
            · exact ⟨d0, hR 0 _ _ _ rfl rfl rfl, .inl ⟨e, by rw [l2 i n1, e']; exact List.getElem?_set_self hil⟩⟩
            · exact ⟨d0, hR 0 _ _ _ rfl rfl rfl, .inr ⟨e, by rw [l2 i n1, e']; exact List.getElem?_set_self hil⟩⟩
          | succ n =>
            obtain ⟨d2, d0, r, q⟩ := l3 as (by simpa using hl) R (fun n i a d h1 h2 h3 => hR (n + 1) i a d h1 h2 h3) n j a h1 h2
            have hne : i ≠ j := fun z => n1 (by rw [z]; exact List.mem_of_getElem? h1)
            refine ⟨d2, d0, r, ?_⟩
            have e1' : Γ1[j]? = Γ[j]? := by
              obtain ⟨d0, ⟨_, e⟩ | ⟨_, e⟩⟩ := setC_kind e1 <;> rw [e, get_set_ne hne]
            rw [e1'] at q
            exact q
    · cases h
theorem Chg.len : ∀ {is : List Nat} {as : List Addr}, Chg σ is as → as.length = is.length
  | _, _, .nil => rfl
  | _, _, .cons _ t => by rw [List.length_cons, List.length_cons, t.len]
theorem Chg.get : ∀ {is : List Nat} {as : List Addr} {n i : Nat} {a : Addr}, Chg σ is as → is[n]? = some i → as[n]? = some a → σ[i]? = some (some (.ref a))
  | _, _, _, _, _, .nil, h, _ => by cases h
  | _, _, 0, _, _, .cons e t, h1, h2 => by cases h1; cases h2; exact e
  | _, _, n + 1, _, _, .cons e t, h1, h2 => t.get (n := n) h1 h2
theorem Now.get {K : Fg} : ∀ {as : List Addr} {ds : List D} {n : Nat} {a : Addr} {d : D}, Now K O H as ds → as[n]? = some a → ds[n]? = some d → ∃ o, H a = some o ∧ OwnOk K (hide O H) o d
  | _, _, _, _, _, .nil, h, _ => by cases h
  | _, _, 0, _, _, .cons e q t, h1, h2 => by cases h1; cases h2; exact ⟨_, e, q⟩
  | _, _, n + 1, _, _, .cons e q t, h1, h2 => t.get (n := n) h1 h2
theorem rel_afterP {P : Addr → Prop} {Γ' : Env} {is : List Nat} {as : List Addr} {ds : List D} (R : RelO C Γ O σ H) (hc : Chg σ is as) (nd : is.Nodup) (hmu : ∀ i ∈ is, ∃ d, Γ[i]? = some (.ow d) ∨ Γ[i]? = some (.io d)) (hp : putsD0 is ds Γ = some Γ') (Af : Aft P C Γ O σ H as O' H') (hn : Now C.K O' H' as ds)
    (hP : ∀ a, P a → Pv C.H0 a → C.P a) (hst : ∀ (i : Nat) (S : Stor), Γ[i]? = some (.st S) → StO C.K O' H' S) :
    RelO C Γ' O' σ H' ∧ Same (hide O H) (hide O' H') := by
  obtain ⟨l1, l2, l3⟩ := putsD_at hp nd
  have mutI : ∀ i ∈ is, ∀ a, σ[i]? = some (some (.ref a)) → MutAt Γ σ i a := fun i hi a e => .inl ⟨hmu i hi, e⟩
  have asM : ∀ a ∈ as, ∃ i ∈ is, MutAt Γ σ i a := fun a ha => by
    obtain ⟨i, hi, e⟩ := hc.at ha
    exact ⟨i, hi, mutI i hi a e⟩
  have asO : ∀ a ∈ as, a ∈ O := fun a ha => by
    obtain ⟨i, _, m⟩ := asM a ha
    exact R.mutIn m
  have e := aft_same Af asO
  have sp := l3 as hc.len (fun i a d => ∃ o, H' a = some o ∧ OwnOk C.K (hide O' H') o d) fun n i a d h1 h2 h3 => hn.get h2 h3
  have inIs : ∀ j ∈ is, ∃ n a, is[n]? = some j ∧ as[n]? = some a ∧ σ[j]? = some (some (.ref a)) := fun j hj => by
    obtain ⟨n, hn', e⟩ := List.mem_iff_getElem.mp hj
    have hla : n < as.length := by rw [hc.len]; exact hn'
    have h1 : is[n]? = some j := by rw [List.getElem?_eq_getElem hn', e]
    have h2 : as[n]? = some as[n] := List.getElem?_eq_getElem hla
    exact ⟨n, as[n], h1, h2, hc.get h1 h2⟩
  have kind : ∀ j a, MutAt Γ' σ j a → MutAt Γ σ j a := fun j a hh => by
    by_cases hj : j ∈ is
    · rcases hh with ⟨_, h2⟩ | ⟨b, P, o, h, _⟩
      · exact mutI j hj a h2
      · obtain ⟨n, a', g1, g2, g3⟩ := inIs _ hj
        obtain ⟨d', d0, _, ⟨q3, q4⟩ | ⟨q3, q4⟩⟩ := sp n _ a' g1 g2 <;> rw [q4] at h <;> cases h
    · unfold MutAt at hh ⊢
      rwa [l2 j hj] at hh
  have notAs : ∀ j a, j ∉ is → MutAt Γ σ j a → a ∉ as := fun j a hj m z => by
    obtain ⟨i, hi, m2⟩ := asM a z
    exact R.ds i j a (fun z => hj (z ▸ hi)) m2 m
  have npO : ∀ a, a ∈ O → ¬ P a := fun a ha z => R.npv ha (Af.pp a z)
  refine ⟨⟨fun j s h => ?_, fun i j a n h1 h2 => R.ds i j a n (kind _ _ h1) (kind _ _ h2), fun a o h n => ?_, ⟨Af.pv.ex, fun a ha => ?_, R.pv.h0⟩, fun a h1 => ⟨(R.pc a h1).1, ?_⟩, fun q hq => ?_, fun q hq => ?_, fun a ha => Af.sub a (R.oo a ha), Af.al, fun a ha => ?_, R.o0, fun q hq => (R.tt q hq).mono e, fun q hq => ⟨?_, Af.sub _ (R.uu q hq).2.1, fun i hi => (R.uu q hq).2.2 i (kind _ _ hi)⟩, by rw [l1]; exact R.len⟩, e⟩
  · by_cases hj : j ∈ is
    · obtain ⟨n, a, h1, h2, h3⟩ := inIs j hj
      obtain ⟨d, d0, ⟨o, q1, q2⟩, ⟨q3, q4⟩ | ⟨q3, q4⟩⟩ := sp n j a h1 h2
      · rw [q4] at h; cases h
        obtain ⟨l, o', g1, g2, g3, _⟩ := R.sl j _ q3
        rw [h3] at g1; cases g1
        exact ⟨a, o, h3, Af.sub _ g2, g3, q1, q2⟩
      · rw [q4] at h; cases h
        obtain ⟨l, o', g1, g2, g3, _⟩ := R.sl j _ q3
        rw [h3] at g1; cases g1
        exact ⟨a, o, h3, g2, Af.sub _ g3, q1, q2⟩
    · rw [l2 j hj] at h
      have q := R.sl j s h
      cases s with
      | no => trivial
      | sh d => obtain ⟨v, h1, h2⟩ := q; exact ⟨v, h1, h2.mono e⟩
      | ow d => obtain ⟨l, u, h1, h2, h3, h4, h5⟩ := q; exact ⟨l, u, h1, Af.sub _ h2, h3, Af.fr _ _ h4 (notAs j l hj (.inl ⟨⟨d, .inl h⟩, h1⟩)) (npO l h2), h5.mono e⟩
      | io d => obtain ⟨l, u, h1, h2, h3, h4, h5⟩ := q; exact ⟨l, u, h1, h2, Af.sub _ h3, Af.fr _ _ h4 (notAs j l hj (.inl ⟨⟨d, .inr h⟩, h1⟩)) (npO l h3), h5.mono e⟩
      | bo d =>
        obtain ⟨v, h1, h2, h3⟩ := q
        refine ⟨v, h1, h2, ?_⟩
        rcases h3 with h3 | ⟨l, u, h3, h4, h5, h6⟩
        · exact .inl (h3.mono e)
        · exact .inr ⟨l, u, h3, h4, h5, h6.mono e⟩
      | pn b P => exact ⟨q.1, fun c hc => ⟨Af.sub _ (q.2.1 c hc).1, Af.fr _ _ (q.2.1 c hc).2.1 (notAs j c.1 hj (.inr ⟨b, P, c.2, h, hc⟩)) (npO _ (q.2.1 c hc).1), (q.2.1 c hc).2.2⟩, fun t ht => (q.2.2 t ht).mono e⟩
      | st S => exact ⟨q.1, q.2.1, hst j S h⟩
  · refine Af.fr a o (R.fr a o h n) (fun z => ?_) fun z => (R.pv.nw a (Af.pp a z)).elim (fun q : C.H0 a = none => by rw [q] at h; cases h) fun q => n.2 (hP a z q)
    obtain ⟨i, hi, ⟨⟨d, m | m⟩, m2⟩ | ⟨b, P, oo, m, _⟩⟩ := asM a z
    · obtain ⟨l, o', g1, g2, g3, _⟩ := R.sl i _ m
      rw [m2] at g1; cases g1
      rw [h] at g3; cases g3
    · obtain ⟨l, o', g1, g2, _⟩ := R.sl i _ m
      rw [m2] at g1; cases g1
      exact n.1 _ g2 rfl
    · obtain ⟨d', h | h⟩ := hmu _ hi <;> rw [m] at h <;> cases h
  · rcases Af.pv.nw a ha with z | z
    · exact .inl (R.fresh0 z)
    · exact R.pv.nw a z
  · by_cases hpa : P a
    · exact Af.pc a hpa (R.pc a h1).2
    · cases q : H a with
      | none => exact absurd q (R.pc a h1).2
      | some u =>
        by_cases hz : a ∈ as
        · exact (Af.al a (Af.sub a (asO a hz))).ne
        · rw [Af.fr a u q hz hpa]; exact fun z => by cases z
  · rcases R.mm q hq with ⟨h1, d, h2⟩ | ⟨h0, h1, P, h2⟩
    · refine .inl ⟨h1, ?_⟩
      by_cases hj : q.1 ∈ is
      · obtain ⟨n, a, g1, g2, g3⟩ := inIs _ hj
        obtain ⟨d', d0, _, ⟨q3, q4⟩ | ⟨q3, q4⟩⟩ := sp n _ a g1 g2
        · rw [h2] at q3; cases q3
        · exact ⟨d', q4⟩
      · exact ⟨d, by rw [l2 _ hj]; exact h2⟩
    · have hj : q.1 ∉ is := fun hj => by
        obtain ⟨d', h | h⟩ := hmu _ hj <;> rw [h2] at h <;> cases h
      exact .inr ⟨h0, h1, P, by rw [l2 _ hj]; exact h2⟩
  · obtain ⟨h1, d, h2⟩ := R.bb q hq
    refine ⟨h1, d, ?_⟩
    by_cases hj : q.1 ∈ is
    · obtain ⟨d', h | h⟩ := hmu _ hj <;> rw [h2] at h <;> cases h
    · rw [l2 _ hj]; exact h2
  · rcases Af.new a ha with z | z
    · exact R.ol a z
    · exact .inr (R.fresh0 z)
  · refine Af.fr _ _ (R.uu q hq).1 (fun z => ?_) (npO _ (R.uu q hq).2.1)
    obtain ⟨i, hi, m⟩ := asM _ z
    exact (R.uu q hq).2.2 i m
theorem rel_after {Γ' : Env} {is : List Nat} {as : List Addr} {ds : List D} (R : RelO C Γ O σ H) (hc : Chg σ is as) (nd : is.Nodup) (hmu : ∀ i ∈ is, ∃ d, Γ[i]? = some (.ow d) ∨ Γ[i]? = some (.io d)) (hp : putsD0 is ds Γ = some Γ') (Af : Aft NoP C Γ O σ H as O' H') (hn : Now C.K O' H' as ds) :
    RelO C Γ' O' σ H' ∧ Same (hide O H) (hide O' H') := by
  have asO : ∀ a ∈ as, a ∈ O := fun a ha => by
    obtain ⟨i, hi, e⟩ := hc.at ha
    exact R.mutIn (.inl ⟨hmu i hi, e⟩)
  refine rel_afterP R hc nd hmu hp Af hn (fun a z => z.elim) fun i S hi a d hs => ((R.sl i _ hi).2.2 a d hs).mono (aft_same Af asO) fun l o hl ho => Af.fr l o ho (fun z => R.npv (asO l z) hl) id
end
end DL
/-! the data layer, part 10: a call over data; the end of a law -/
namespace DL
open PySem PySem.Spec PyProof.Rows L2
section
variable {C : Ctx} {Γ : Env} {O O' : List Addr} {σ : L2.St} {H H' : Hp}
theorem chg_of (R : RelO C Γ O σ H) : ∀ {ms : List Md} {rs : List Res} {vs : List V} {ds : List D}, Pends C.K O σ H vs rs → argsD0 Γ ms rs = some ds → Chg σ (mPls0 ms rs) (mAddrs ms vs) ∧ ∀ i ∈ mPls0 ms rs, ∃ d, Γ[i]? = some (.ow d) ∨ Γ[i]? = some (.io d)
  | [], [], _, _, .nil, _ => ⟨.nil, fun _ h => absurd h (by simp [mPls0])⟩
  | [], _ :: _, _, _, .cons _ _, h => by cases h
  | _ :: _, [], _, _, .nil, h => by cases h
  | m :: ms, r :: rs, _, ds, .cons (v := v) (vs := vs) hp ht, h => by
    unfold argsD0 at h
    split at h
    · rename_i d ds' e1 e2
      cases h
      obtain ⟨c, k⟩ := chg_of R ht e2
      cases m with
      | G => cases e1
      | S =>
        unfold mPls0 mAddrs
        rw [mA_S]
        cases r <;> exact ⟨c, k⟩
      | B =>
        unfold mPls0 mAddrs
        rw [mA_B]
        cases r <;> exact ⟨c, k⟩
      | M =>
        cases r with
        | val d => cases e1
        | fr d => cases e1
        | np a ds => cases e1
        | hd a => cases e1
        | pl i =>
          have hp : σ[i]? = some (some v) := hp
          have e1 : (match Γ[i]? with | some (.ow d) => some d | some (.io d) => some d | _ => none) = some d := e1
          have km : ∃ d, Γ[i]? = some (.ow d) ∨ Γ[i]? = some (.io d) := by
            split at e1
            · rename_i d' q; exact ⟨d', .inl q⟩
            · rename_i d' q; exact ⟨d', .inr q⟩
            · cases e1
          obtain ⟨d', q⟩ := km
          have hv : ∃ a, v = .ref a := by
            rcases q with q | q
            · obtain ⟨l, o, g, _⟩ := R.sl i _ q
              rw [hp] at g; cases g; exact ⟨l, rfl⟩
            · obtain ⟨l, o, g, _⟩ := R.sl i _ q
              rw [hp] at g; cases g; exact ⟨l, rfl⟩
          obtain ⟨a, rfl⟩ := hv
          refine ⟨.cons hp c, fun j hj => ?_⟩
          have hj : j ∈ i :: mPls0 ms rs := hj
          rcases List.mem_cons.mp hj with z | z
          · subst z; exact ⟨d', q⟩
          · exact k j z
    · cases h
theorem args_of (R : RelO C Γ O σ H) {P : List Nat} {Ms : List Addr} (hc : Chg σ P Ms) (hmu : ∀ i ∈ P, ∃ d, Γ[i]? = some (.ow d) ∨ Γ[i]? = some (.io d)) : ∀ {ms : List Md} {rs : List Res} {vs : List V} {ds : List D}, Pends C.K O σ H vs rs → argsD0 Γ ms rs = some ds → (∀ i ∈ bPls0 ms rs, i ∉ P) → ArgsOk C.K O H Ms ms vs ds
  | [], [], _, _, .nil, h, _ => by cases h; exact .nil
  | [], _ :: _, _, _, .cons _ _, h, _ => by cases h
  | _ :: _, [], _, _, .nil, h, _ => by cases h
  | m :: ms, r :: rs, _, ds, .cons (v := v) (vs := vs) hp ht, h, hb => by
    unfold argsD0 at h
    split at h
    · rename_i d ds' e1 e2
      cases h
      have t := args_of R hc hmu ht e2 fun i hi => hb i (List.mem_append_right _ hi)
      cases m with
      | G => cases e1
      | S => exact .S (hp.dat e1) t
      | B =>
        refine .B ?_ t
        cases r with
        | val d' => cases e1; exact .inl hp
        | fr d' => cases e1; exact .inl hp
        | np a ds => cases e1; exact .inl hp
        | hd a => cases e1
        | pl i =>
          have hp : σ[i]? = some (some v) := hp
          have e1 : cont Γ[i]? = some d := e1
          have hi : i ∉ P := hb i (List.mem_append_left _ (List.mem_singleton.mpr rfl))
          cases q : Γ[i]? with
          | none => rw [q] at e1; cases e1
          | some s =>
            rw [q] at e1
            have k := R.sl i s q
            cases s with
            | no => cases e1
            | sh d' => cases e1
            | ow d' =>
              cases e1
              obtain ⟨l, o, h1, h2, h3, h4, h5⟩ := k
              rw [hp] at h1; cases h1
              refine .inr ⟨l, o, rfl, h4, ⟨fun z => ?_, R.npv (R.mutIn (.inl ⟨⟨_, .inl q⟩, hp⟩))⟩, h5⟩
              obtain ⟨j, hj, e⟩ := hc.at z
              exact R.ds i j l (fun z => hi (z ▸ hj)) (.inl ⟨⟨_, .inl q⟩, hp⟩) (.inl ⟨hmu j hj, e⟩)
            | io d' =>
              cases e1
              obtain ⟨l, o, h1, h2, h3, h4, h5⟩ := k
              rw [hp] at h1; cases h1
              refine .inr ⟨l, o, rfl, h4, ⟨fun z => ?_, R.npv (R.mutIn (.inl ⟨⟨_, .inr q⟩, hp⟩))⟩, h5⟩
              obtain ⟨j, hj, e⟩ := hc.at z
              exact R.ds i j l (fun z => hi (z ▸ hj)) (.inl ⟨⟨_, .inr q⟩, hp⟩) (.inl ⟨hmu j hj, e⟩)
            | bo d' =>
              cases e1
              obtain ⟨v', h1, h2, h3⟩ := k
              rw [hp] at h1; cases h1
              rcases h3 with h3 | ⟨l, o, h3, h4, h5, h6⟩
              · exact .inl h3
              · refine .inr ⟨l, o, h3, R.fr l o h4 h5.1, ⟨fun z => ?_, R.npv0 h4 h5.2⟩, h6⟩
                obtain ⟨j, hj, e⟩ := hc.at z
                obtain ⟨dj, g | g⟩ := hmu j hj
                · obtain ⟨l2, o2, g1, g2, g3, _⟩ := R.sl j _ g
                  rw [e] at g1; cases g1
                  rw [h4] at g3; cases g3
                · obtain ⟨l2, o2, g1, g2, _⟩ := R.sl j _ g
                  rw [e] at g1; cases g1
                  exact h5.1.1 _ g2 rfl
            | pn b P => cases e1
            | st S => cases e1
      | M =>
        cases r with
        | val d => cases e1
        | fr d => cases e1
        | np a ds => cases e1
        | hd a => cases e1
        | pl i =>
          have hp : σ[i]? = some (some v) := hp
          have e1 : (match Γ[i]? with | some (.ow d) => some d | some (.io d) => some d | _ => none) = some d := e1
          split at e1
          · rename_i d' q
            cases e1
            obtain ⟨l, o, h1, h2, h3, h4, h5⟩ := R.sl i _ q
            rw [hp] at h1; cases h1
            exact .M h2 h4 h5 t
          · rename_i d' q
            cases e1
            obtain ⟨l, o, h1, h2, h3, h4, h5⟩ := R.sl i _ q
            rw [hp] at h1; cases h1
            exact .M h3 h4 h5 t
          · cases e1
    · cases h
theorem chg_nodup (R : RelO C Γ O σ H) : ∀ {is : List Nat} {as : List Addr}, Chg σ is as → (∀ i ∈ is, ∃ d, Γ[i]? = some (.ow d) ∨ Γ[i]? = some (.io d)) → is.Nodup → as.Nodup
  | _, _, .nil, _, _ => List.nodup_nil
  | _, _, .cons (i := i) (a := a) e t, hmu, nd => by
    obtain ⟨n1, n2⟩ := List.nodup_cons.mp nd
    refine List.nodup_cons.mpr ⟨fun z => ?_, chg_nodup R t (fun i hi => hmu i (List.mem_cons_of_mem _ hi)) n2⟩
    obtain ⟨j, hj, ej⟩ := t.at z
    exact R.ds i j a (fun z => n1 (z ▸ hj)) (.inl ⟨hmu i List.mem_cons_self, e⟩) (.inl ⟨hmu j (List.mem_cons_of_mem _ hj), ej⟩)
theorem now_of {K : Fg} {ms : List Md} {vs : List V} {ds : List D} (h : MsOk K O H ms vs ds) : Now K O H (mAddrs ms vs) ds := by
  induction h with
  | nil => exact .nil
  | S _ ih => unfold mAddrs; rw [mA_S]; exact ih
  | B _ ih => unfold mAddrs; rw [mA_B]; exact ih
  | M h1 h2 _ ih => exact .cons h1 h2 ih
theorem mutAt_put {Γ' : Env} {is : List Nat} {ds : List D} (hp : putsD0 is ds Γ = some Γ') (nd : is.Nodup) (hmu : ∀ i ∈ is, ∃ d, Γ[i]? = some (.ow d) ∨ Γ[i]? = some (.io d)) {j : Nat} {a : Addr} (h : MutAt Γ' σ j a) : MutAt Γ σ j a := by
  obtain ⟨_, l2, l3⟩ := putsD_at hp nd
  by_cases hj : j ∈ is
  · rcases h with ⟨_, h2⟩ | ⟨b, P, o, h, _⟩
    · exact .inl ⟨hmu j hj, h2⟩
    · obtain ⟨n, hn, e⟩ := List.mem_iff_getElem.mp hj
      obtain ⟨d, d0, _, ⟨_, z⟩ | ⟨_, z⟩⟩ := l3 (List.replicate is.length a) (by rw [List.length_replicate]) (fun _ _ _ => True) (fun _ _ _ _ _ _ _ => trivial) n j a (by rw [List.getElem?_eq_getElem hn, e]) (by rw [List.getElem?_replicate, if_pos hn]) <;> rw [z] at h <;> cases h
  · unfold MutAt at h ⊢
    rwa [l2 j hj] at h
/-- the store's slot left out -/
def noS : Sl → Sl
  | .st _ => .no
  | s => s
def noSt (Γ : Env) : Env := Γ.map noS
theorem noSt_at {i : Nat} {s : Sl} (h : (noSt Γ)[i]? = some s) : ∃ s0, Γ[i]? = some s0 ∧ s = noS s0 := by
  unfold noSt at h
  rw [List.getElem?_map] at h
  cases e : Γ[i]? with
  | none => rw [e] at h; cases h
  | some s0 => rw [e] at h; cases h; exact ⟨s0, rfl, rfl⟩
theorem noSt_of {i : Nat} {s : Sl} (h : Γ[i]? = some s) (hs : ∀ S, s ≠ .st S) : (noSt Γ)[i]? = some s := by
  unfold noSt
  rw [List.getElem?_map, h]
  cases s with
  | st S => exact absurd rfl (hs S)
  | _ => rfl
theorem noSt_no {i : Nat} {S : Stor} : (noSt Γ)[i]? ≠ some (.st S) := fun h => by
  obtain ⟨s0, _, e⟩ := noSt_at h
  cases s0 <;> cases e
theorem mutAt_noSt {j : Nat} {a : Addr} : MutAt (noSt Γ) σ j a ↔ MutAt Γ σ j a := by
  constructor
  · rintro (⟨⟨d, h | h⟩, h2⟩ | ⟨b, P, o, h, h2⟩)
    · obtain ⟨s0, e, q⟩ := noSt_at h
      cases s0 <;> cases q <;> exact .inl ⟨⟨d, .inl e⟩, h2⟩
    · obtain ⟨s0, e, q⟩ := noSt_at h
      cases s0 <;> cases q <;> exact .inl ⟨⟨d, .inr e⟩, h2⟩
    · obtain ⟨s0, e, q⟩ := noSt_at h
      cases s0 <;> cases q <;> exact .inr ⟨b, P, o, e, h2⟩
  · rintro (⟨⟨d, h | h⟩, h2⟩ | ⟨b, P, o, h, h2⟩)
    · exact .inl ⟨⟨d, .inl (noSt_of h fun _ z => by cases z)⟩, h2⟩
    · exact .inl ⟨⟨d, .inr (noSt_of h fun _ z => by cases z)⟩, h2⟩
    · exact .inr ⟨b, P, o, noSt_of h (fun _ z => by cases z), h2⟩
theorem RelO.noSt (R : RelO C Γ O σ H) : RelO C (DL.noSt Γ) O σ H := by
  refine ⟨fun i s h => ?_, fun i j a n h1 h2 => R.ds i j a n (mutAt_noSt.mp h1) (mutAt_noSt.mp h2), R.fr, R.pv, R.pc, fun p hp => ?_, fun p hp => ?_, R.oo, R.al, R.ol, R.o0, R.tt, fun q hq => ⟨(R.uu q hq).1, (R.uu q hq).2.1, fun i hi => (R.uu q hq).2.2 i (mutAt_noSt.mp hi)⟩, by unfold DL.noSt; rw [List.length_map]; exact R.len⟩
  · obtain ⟨s0, e, rfl⟩ := noSt_at h
    have q := R.sl i s0 e
    cases s0 with
    | st S => trivial
    | _ => exact q
  · rcases R.mm p hp with ⟨h1, d, h2⟩ | ⟨h0, h1, P, h2⟩
    · exact .inl ⟨h1, d, noSt_of h2 fun _ z => by cases z⟩
    · exact .inr ⟨h0, h1, P, noSt_of h2 fun _ z => by cases z⟩
  · obtain ⟨h1, d, h2⟩ := R.bb p hp
    exact ⟨h1, d, noSt_of h2 fun _ z => by cases z⟩
/-- the store is there again -/
theorem RelO.withSt (R : RelO C (DL.noSt Γ) O σ H) (h : ∀ i S, Γ[i]? = some (Sl.st S) → i = C.G ∧ (∀ a, Pv C.H0 a → C.P a) ∧ StO C.K O H S) : RelO C Γ O σ H := by
  refine ⟨fun i s hs => ?_, fun i j a n h1 h2 => R.ds i j a n (mutAt_noSt.mpr h1) (mutAt_noSt.mpr h2), R.fr, R.pv, R.pc, fun p hp => ?_, fun p hp => ?_, R.oo, R.al, R.ol, R.o0, R.tt, fun q hq => ⟨(R.uu q hq).1, (R.uu q hq).2.1, fun i hi => (R.uu q hq).2.2 i (mutAt_noSt.mpr hi)⟩, by rw [← R.len]; unfold DL.noSt; rw [List.length_map]⟩
  · cases s with
    | st S => exact h i S hs
    | _ => exact R.sl i _ (noSt_of hs fun _ z => by cases z)
  · rcases R.mm p hp with ⟨h1, d, h2⟩ | ⟨h0, h1, P, h2⟩
    · obtain ⟨s0, e, q⟩ := noSt_at h2
      cases s0 <;> cases q <;> exact .inl ⟨h1, d, e⟩
    · obtain ⟨s0, e, q⟩ := noSt_at h2
      cases s0 <;> cases q <;> exact .inr ⟨h0, h1, P, e⟩
  · obtain ⟨h1, d, h2⟩ := R.bb p hp
    obtain ⟨s0, e, q⟩ := noSt_at h2
    cases s0 <;> cases q <;> exact ⟨h1, d, e⟩
theorem noSt_set {i : Nat} {s : Sl} (hs : ∀ S, s ≠ .st S) : DL.noSt (Γ.set i s) = (DL.noSt Γ).set i s := by
  unfold DL.noSt
  rw [List.map_set]
  cases s with
  | st S => exact absurd rfl (hs S)
  | _ => rfl
theorem putsD_noSt : ∀ {is : List Nat} {ds : List D} {Γ Γ' : Env}, putsD0 is ds Γ = some Γ' → putsD0 is ds (DL.noSt Γ) = some (DL.noSt Γ')
  | [], [], _, _, h => by cases h; rfl
  | [], _ :: _, _, _, h => by cases h
  | _ :: _, [], _, _, h => by cases h
  | i :: is, d :: ds, Γ, Γ', h => by
    rw [putsD0] at h
    split at h
    · rename_i Γ1 e1
      have e2 : setC (DL.noSt Γ) i d = some (DL.noSt Γ1) := by
        obtain ⟨d0, ⟨e, e'⟩ | ⟨e, e'⟩⟩ := setC_kind e1
        · have e3 := noSt_of e fun _ z => by cases z
          rw [e', noSt_set fun _ z => by cases z]
          unfold setC
          rw [e3]
        · have e3 := noSt_of e fun _ z => by cases z
          rw [e', noSt_set fun _ z => by cases z]
          unfold setC
          rw [e3]
      rw [putsD0, e2]
      exact putsD_noSt h
    · cases h
theorem stOf_at : ∀ {Γ : DL.Env} {S : Stor}, stOf Γ = some S → ∃ i : Nat, Γ[i]? = some (.st S) ∧ ∀ j, j < i → ∀ T, Γ[j]? ≠ some (.st T)
  | [], _, h => by cases h
  | .st S :: Γ, T, h => by cases h; exact ⟨0, rfl, fun j hj => absurd hj (Nat.not_lt_zero _)⟩
  | .no :: Γ, S, h => by obtain ⟨i, q, r⟩ := stOf_at (Γ := Γ) h; exact ⟨i + 1, q, fun j hj T z => by cases j with | zero => cases z | succ j => exact r j (by omega) T z⟩
  | .sh _ :: Γ, S, h => by obtain ⟨i, q, r⟩ := stOf_at (Γ := Γ) h; exact ⟨i + 1, q, fun j hj T z => by cases j with | zero => cases z | succ j => exact r j (by omega) T z⟩
  | .ow _ :: Γ, S, h => by obtain ⟨i, q, r⟩ := stOf_at (Γ := Γ) h; exact ⟨i + 1, q, fun j hj T z => by cases j with | zero => cases z | succ j => exact r j (by omega) T z⟩
  | .io _ :: Γ, S, h => by obtain ⟨i, q, r⟩ := stOf_at (Γ := Γ) h; exact ⟨i + 1, q, fun j hj T z => by cases j with | zero => cases z | succ j => exact r j (by omega) T z⟩
  | .bo _ :: Γ, S, h => by obtain ⟨i, q, r⟩ := stOf_at (Γ := Γ) h; exact ⟨i + 1, q, fun j hj T z => by cases j with | zero => cases z | succ j => exact r j (by omega) T z⟩
  | .pn _ _ :: Γ, S, h => by obtain ⟨i, q, r⟩ := stOf_at (Γ := Γ) h; exact ⟨i + 1, q, fun j hj T z => by cases j with | zero => cases z | succ j => exact r j (by omega) T z⟩
theorem putSt_noSt {S : Stor} : ∀ {Γ : DL.Env}, DL.noSt (putSt S Γ) = DL.noSt Γ
  | [] => rfl
  | .st _ :: Γ => rfl
  | .no :: Γ => congrArg (Sl.no :: ·) putSt_noSt
  | .sh d :: Γ => congrArg (Sl.sh d :: ·) putSt_noSt
  | .ow d :: Γ => congrArg (Sl.ow d :: ·) putSt_noSt
  | .io d :: Γ => congrArg (Sl.io d :: ·) putSt_noSt
  | .bo d :: Γ => congrArg (Sl.bo d :: ·) putSt_noSt
  | .pn b P :: Γ => congrArg (Sl.pn b P :: ·) putSt_noSt
theorem putSt_not {S T : Stor} : ∀ {Γ : DL.Env} {i : Nat}, Γ[i]? = some .no → (putSt S Γ)[i]? ≠ some (.st T)
  | [], _, h, _ => by cases h
  | .st _ :: Γ, 0, h, _ => by cases h
  | .st _ :: Γ, i + 1, h, z => by
    have h : Γ[i]? = some .no := h
    have z : Γ[i]? = some (.st T) := z
    rw [h] at z; cases z
  | .no :: Γ, 0, _, z => by cases z
  | .no :: Γ, i + 1, h, z => putSt_not (Γ := Γ) (i := i) h z
  | .sh _ :: Γ, 0, _, z => by cases z
  | .sh _ :: Γ, i + 1, h, z => putSt_not (Γ := Γ) (i := i) h z
  | .ow _ :: Γ, 0, _, z => by cases z
  | .ow _ :: Γ, i + 1, h, z => putSt_not (Γ := Γ) (i := i) h z
  | .io _ :: Γ, 0, _, z => by cases z
  | .io _ :: Γ, i + 1, h, z => putSt_not (Γ := Γ) (i := i) h z
  | .bo _ :: Γ, 0, _, z => by cases z
  | .bo _ :: Γ, i + 1, h, z => putSt_not (Γ := Γ) (i := i) h z
  | .pn _ _ :: Γ, 0, _, z => by cases z
  | .pn _ _ :: Γ, i + 1, h, z => putSt_not (Γ := Γ) (i := i) h z
theorem putSt_other {S T : Stor} : ∀ {Γ : DL.Env} {i : Nat} {s : Sl}, Γ[i]? = some s → (∀ T, s ≠ .st T) → (putSt S Γ)[i]? ≠ some (.st T) := fun {Γ i s} h hs z => by
  have nn : (DL.noSt (putSt S Γ))[i]? = some .no := by unfold DL.noSt; rw [List.getElem?_map, z]; rfl
  have n2 := noSt_of h hs
  rw [putSt_noSt] at nn
  rw [nn] at n2
  cases n2
  exact putSt_not h z
/-- the first one is replaced -/
theorem putSt_at {S : Stor} : ∀ {Γ : DL.Env} {i : Nat} {T : Stor}, (putSt S Γ)[i]? = some (.st T) → T = S ∨ ∃ j, j < i ∧ ∃ T', Γ[j]? = some (.st T') ∧ Γ[i]? = some (.st T)
  | [], _, _, h => by cases h
  | .st S0 :: Γ, 0, _, h => by cases h; exact .inl rfl
  | .st S0 :: Γ, i + 1, T, h => .inr ⟨0, Nat.succ_pos _, S0, rfl, h⟩
  | .no :: Γ, 0, _, h => by cases h
  | .no :: Γ, i + 1, T, h => (putSt_at (Γ := Γ) h).imp id fun ⟨j, h1, T', h2, h3⟩ => ⟨j + 1, Nat.succ_lt_succ h1, T', h2, h3⟩
  | .sh _ :: Γ, 0, _, h => by cases h
  | .sh _ :: Γ, i + 1, T, h => (putSt_at (Γ := Γ) h).imp id fun ⟨j, h1, T', h2, h3⟩ => ⟨j + 1, Nat.succ_lt_succ h1, T', h2, h3⟩
  | .ow _ :: Γ, 0, _, h => by cases h
  | .ow _ :: Γ, i + 1, T, h => (putSt_at (Γ := Γ) h).imp id fun ⟨j, h1, T', h2, h3⟩ => ⟨j + 1, Nat.succ_lt_succ h1, T', h2, h3⟩
  | .io _ :: Γ, 0, _, h => by cases h
  | .io _ :: Γ, i + 1, T, h => (putSt_at (Γ := Γ) h).imp id fun ⟨j, h1, T', h2, h3⟩ => ⟨j + 1, Nat.succ_lt_succ h1, T', h2, h3⟩
  | .bo _ :: Γ, 0, _, h => by cases h
  | .bo _ :: Γ, i + 1, T, h => (putSt_at (Γ := Γ) h).imp id fun ⟨j, h1, T', h2, h3⟩ => ⟨j + 1, Nat.succ_lt_succ h1, T', h2, h3⟩
  | .pn _ _ :: Γ, 0, _, h => by cases h
  | .pn _ _ :: Γ, i + 1, T, h => (putSt_at (Γ := Γ) h).imp id fun ⟨j, h1, T', h2, h3⟩ => ⟨j + 1, Nat.succ_lt_succ h1, T', h2, h3⟩
theorem putSt_len {S : Stor} {Γ : DL.Env} : (putSt S Γ).length = Γ.length := by
  have := congrArg List.length (putSt_noSt (S := S) (Γ := Γ))
  unfold DL.noSt at this
  rwa [List.length_map, List.length_map] at this
theorem putsD_sts : ∀ {is : List Nat} {ds : List D} {Γ Γ' : Env}, putsD0 is ds Γ = some Γ' → ∀ (i : Nat) (S : Stor), Γ'[i]? = some (.st S) → Γ[i]? = some (.st S)
  | [], [], _, _, h, i, S, e => by cases h; exact e
  | [], _ :: _, _, _, h, _, _, _ => by cases h
  | _ :: _, [], _, _, h, _, _, _ => by cases h
  | j :: is, d :: ds, Γ, Γ', h, i, S, e => by
    rw [putsD0] at h
    split at h
    · rename_i Γ1 e1
      have q := putsD_sts h i S e
      obtain ⟨d0, ⟨e2, e'⟩ | ⟨e2, e'⟩⟩ := setC_kind e1
      · rw [e'] at q
        by_cases hij : j = i
        · subst hij; cases get_set_same q
        · rwa [get_set_ne hij] at q
      · rw [e'] at q
        by_cases hij : j = i
        · subst hij; cases get_set_same q
        · rwa [get_set_ne hij] at q
    · cases h
theorem argsD_split {Γ1 : Env} {ms : List Md} {rs : List Res} {ds : List D} (hd : argsD Γ1 ms rs = some ds) : ∃ ds0 S, argsD0 Γ1 (strip ms) rs = some ds0 ∧ ds = ds0 ++ stoL ms S ∧ (hasG ms = true → stOf Γ1 = some S) := by
  unfold argsD at hd
  unfold stoL
  split at hd
  · cases hd
  · rename_i ds0 e0
    split at hd
    · rename_i eg
      cases hd
      exact ⟨_, [], e0, by rw [eg]; simp, fun z => by rw [eg] at z; cases z⟩
    · rename_i eg
      split at hd
      · cases hd
      · rename_i S eS
        cases hd
        exact ⟨ds0, S, e0, by rw [eg]; simp, fun _ => eS⟩
theorem PstG_mono {ms : List Md} {H H' : Hp} {a : Addr} (h : ∀ b, Pv H b → Pv H' b) (z : PstG ms H a) : PstG ms H' a := by
  unfold PstG at z ⊢
  split
  · rename_i e; rw [if_pos e] at z; exact h a z
  · rename_i e; rw [if_neg e] at z; exact z
theorem now_len {K : Fg} {as : List Addr} {ds : List D} (h : Now K O H as ds) : as.length = ds.length := by
  induction h with
  | nil => rfl
  | cons _ _ _ ih => rw [List.length_cons, List.length_cons, ih]
theorem rel_mut {ms : List Md} {Γ1 Γ2 : Env} {H1 : Hp} {rs : List Res} {vs : List V} {ds0 ds' : List D} {S' : Stor} {O2 : List Addr} (R1 : RelO C Γ1 O σ H1) (hd : argsD0 Γ1 (strip ms) rs = some ds0) (p1 : Pends C.K O σ H1 vs rs) (nd : (mPls ms rs).Nodup)
    (hput : putsD (mPls ms rs) (ds' ++ stoL ms S') Γ1 = some Γ2) (hms : MsOk C.K O2 H' (strip ms) vs ds') {i : Nat} {a : Addr} (m : MutAt Γ2 σ i a) : a ∈ O := by
  obtain ⟨hc, hmu⟩ := chg_of R1 p1 hd
  have hlen : (mPls ms rs).length = ds'.length := hc.len.symm.trans (now_len (now_of hms))
  unfold stoL at hput
  by_cases hg : hasG ms = true
  · rw [if_pos hg] at hput
    obtain ⟨Γ3, h3, rfl⟩ := putsD_st hlen hput
    rw [← mutAt_noSt, putSt_noSt, mutAt_noSt] at m
    exact R1.mutIn (mutAt_put h3 nd hmu m)
  · rw [if_neg hg, List.append_nil, putsD_0 hlen] at hput
    exact R1.mutIn (mutAt_put hput nd hmu m)
/-- behind a call, with or without the store -/
theorem rel_call {ms : List Md} {Γ1 Γ2 : Env} {H1 : Hp} {rs : List Res} {vs : List V} {ds0 ds' : List D} {S S' : Stor} (R1 : RelO C Γ1 O σ H1) (p1 : Pends C.K O σ H1 vs rs) (hd : argsD0 Γ1 (strip ms) rs = some ds0) (hst : hasG ms = true → stOf Γ1 = some S) (nd : (mPls ms rs).Nodup)
    (post : PostP (PstG ms H1) C.K O H1 (strip ms) vs H' O') (hms : MsOk C.K O' H' (strip ms) vs ds') (hS : StG ms C.K O' H' S') (hput : putsD (mPls ms rs) (ds' ++ stoL ms S') Γ1 = some Γ2) :
    RelO C Γ2 O' σ H' ∧ Same (hide O H1) (hide O' H') ∧ ∀ i a, MutAt Γ2 σ i a → a ∈ O := by
  obtain ⟨hc, hmu⟩ := chg_of R1 p1 hd
  have hn := now_of hms
  have hlen : (mPls ms rs).length = ds'.length := by
    have h1 := hc.len
    have h2 : (mAddrs (strip ms) vs).length = ds'.length := by
      clear hput hd hst post hS h1 hms
      generalize mAddrs (strip ms) vs = as at hn
      induction hn with
      | nil => rfl
      | cons _ _ _ ih => rw [List.length_cons, List.length_cons, ih]
    exact h1.symm.trans h2
  by_cases hg : hasG ms = true
  · have Af : Aft (PstG ms H1) C Γ1 O σ H1 (mAddrs (strip ms) vs) O' H' := ⟨post.sub, post.new, post.al, post.fr, post.pv, post.pc, fun _ z => z.pv⟩
    unfold stoL at hput
    rw [if_pos hg] at hput
    obtain ⟨Γ3, h3, rfl⟩ := putsD_st hlen hput
    obtain ⟨i0, hi0, _⟩ := stOf_at (hst hg)
    have k0 := R1.sl i0 _ hi0
    have hmuN : ∀ i ∈ mPls ms rs, ∃ d, (DL.noSt Γ1)[i]? = some (.ow d) ∨ (DL.noSt Γ1)[i]? = some (.io d) := fun i hi => by
      obtain ⟨d, h | h⟩ := hmu i hi
      · exact ⟨d, .inl (noSt_of h fun _ z => by cases z)⟩
      · exact ⟨d, .inr (noSt_of h fun _ z => by cases z)⟩
    have AfN : Aft (PstG ms H1) C (DL.noSt Γ1) O σ H1 (mAddrs (strip ms) vs) O' H' := ⟨Af.sub, Af.new, Af.al, Af.fr, Af.pv, Af.pc, Af.pp⟩
    obtain ⟨R2, e2⟩ := rel_afterP R1.noSt hc nd hmuN (putsD_noSt h3) AfN hn (fun a _ z => k0.2.1 a z) fun i T z => absurd z noSt_no
    rw [← putSt_noSt (S := S')] at R2
    refine ⟨R2.withSt fun i T hT => ?_, e2, fun i a m => ?_⟩
    · have old : ∀ (j : Nat) (T' : Stor), Γ3[j]? = some (.st T') → j = C.G := fun j T' z => (R1.sl j _ (putsD_sts h3 j T' z)).1
      rcases putSt_at hT with rfl | ⟨j, hj, T', z1, z2⟩
      · refine ⟨?_, k0.2.1, hS hg⟩
        have nn : (DL.noSt (putSt T Γ3))[i]? = some .no := by unfold DL.noSt; rw [List.getElem?_map, hT]; rfl
        rw [putSt_noSt] at nn
        -- the place where the store stood
        have hi : i < Γ3.length := by have := (List.getElem?_eq_some_iff.mp hT).1; rwa [putSt_len] at this
        cases q : Γ3[i]? with
        | none => rw [List.getElem?_eq_none_iff] at q; omega
        | some s =>
          cases s with
          | st T0 => exact old i T0 q
          | _ => exact absurd hT (putSt_other q (fun _ z => by cases z))
      · have a1 := old j T' z1
        have a2 := old i T z2
        omega
    · rw [← mutAt_noSt, putSt_noSt, mutAt_noSt] at m
      exact R1.mutIn (mutAt_put h3 nd hmu m)
  · have eP : PstG ms H1 = NoP := by unfold PstG; rw [if_neg hg]
    rw [eP] at post
    unfold stoL at hput
    rw [if_neg hg, List.append_nil, putsD_0 hlen] at hput
    have Af : Aft NoP C Γ1 O σ H1 (mAddrs (strip ms) vs) O' H' := ⟨post.sub, post.new, post.al, post.fr, post.pv, post.pc, fun _ z => z.elim⟩
    obtain ⟨R2, e2⟩ := rel_after R1 hc nd hmu hput Af hn
    exact ⟨R2, e2, fun i a m => R1.mutIn (mutAt_put hput nd hmu m)⟩
/-- a call, its arguments being there -/
theorem call_core {Γ1 : Env} {H1 : Hp} {ms : List Md} {sd : DSp} {rs : List Res} {vs : List V} {ds : List D} {Qd : QE} {Q : VK} {E : XK} {Ed : EdT} (R1 : RelO C Γ1 O σ H1) (p1 : Pends C.K O σ H1 vs rs) (hd : argsD Γ1 ms rs = some ds) (hap : apartB ms rs = true)
    (hsd : sd ds (fun b d ds' => ∃ Γ2, putsD (mPls ms rs) ds' Γ1 = some Γ2 ∧ Qd (if b = true then frOf d else .val d) Γ2) Ed) (k : ∀ r Γ' v H', ROk C Γ' O σ H' v r → SE O H1 H' v r → Qd r Γ' → Q v H')
    (kx : ∀ n c d H' O' fds ds', (∀ Γ2, putsD (mPls ms rs) ds' Γ1 = some Γ2 → RelO C Γ2 O' σ H' ∧ Same (hide O H1) (hide O' H')) → XNm C.K n c → XdOk C.K H1 H' d fds → Ed n fds ds' → E (.ref c) d H') : spD C.K ms sd vs H1 Q E := by
  unfold apartB at hap
  rw [Bool.and_eq_true, Bool.and_eq_true] at hap
  have nd : (mPls ms rs).Nodup := of_decide_eq_true hap.1.1
  have hb : ∀ i ∈ bPls ms rs, i ∉ mPls ms rs := fun i hi => of_decide_eq_true (List.all_eq_true.mp hap.1.2 i hi)
  obtain ⟨ds0, S, hd0, rfl, hst⟩ := argsD_split hd
  obtain ⟨hc, hmu⟩ := chg_of R1 p1 hd0
  have hargs := args_of R1 hc hmu p1 hd0 hb
  have ndA := chg_nodup R1 hc hmu nd
  have hS0 : StG ms C.K O H1 S := fun hg => by
    obtain ⟨i0, hi0, _⟩ := stOf_at (hst hg)
    exact (R1.sl i0 _ hi0).2.2
  refine ⟨O, ds0, S, _, Ed, hargs, R1.al, ⟨ndA, R1.pv.here⟩, hS0, hsd, fun v H' O' b d ds' S' post hms hS hres hq => ?_, fun n c d H' O' fds ds' S' post hms hS hn hx hE => ?_⟩
  · obtain ⟨Γ2, hput, hq⟩ := hq
    obtain ⟨R2, e2, mO⟩ := rel_call R1 p1 hd0 hst nd post hms hS hput
    have uO : ∀ q ∈ C.U, q.1 ∈ O := fun q hq => (R1.uu q hq).2.1
    obtain ⟨R3, e3⟩ := R2.shrink (O := O) post.sub mO uO R1.oo
    have eA : Same (hide O H1) (hide O H') := L2.Same.trans e2 e3
    cases b with
    | true =>
      rcases hres with hres | ⟨a, ds, p, l, v0, vs, rfl, rfl, h2, h3, h4, h5, h6, h7, h8⟩
      rotate_left
      · refine k (.np a ds) Γ2 _ H' ⟨R3, p, l, v0, vs, rfl, h2, fun z => h3 (post.sub p z), fun z => h4 (post.sub l z), h5, ⟨R1.fresh0 h6.1, h6.2⟩, h7.mono e3, h8.mono e3⟩ ⟨eA, fun _ _ e => nomatch e⟩ hq
      obtain ⟨p, o, rfl, hpO', hp0, hp, ho⟩ := hres
      have hfr : frOf d = .fr d := by cases ho <;> rfl
      rw [if_pos rfl, hfr] at hq
      have hpO : p ∉ O := R1.notin hp0
      obtain ⟨R4, e4⟩ := R2.shrink (O := p :: O) (fun a ha => (List.mem_cons.mp ha).elim (fun z => z ▸ hpO') (post.sub a)) (fun i a m => List.mem_cons_of_mem _ (mO i a m)) (fun q hq => List.mem_cons_of_mem _ (uO q hq)) fun a ha => List.mem_cons_of_mem _ (R1.oo a ha)
      exact k (.fr d) Γ2 _ H' ⟨R3, p, o, rfl, hp, hpO, R1.fresh0 hp0, ho.mono e4, R4⟩ (.fr (L2.Same.trans e2 e4)) hq
    | false => exact k (.val d) Γ2 v H' ⟨R3, Rep.mono e3 hres⟩ (.val eA) hq
  · refine kx n c d H' O' fds _ (fun Γ2 hput => ?_) hn hx hE
    obtain ⟨R2, e2, _⟩ := rel_call R1 p1 hd0 hst nd post hms hS hput
    exact ⟨R2, e2⟩
theorem sim_call {t : TA} {ma : DTA} {ms : List Md} {sd : DSp} {E : XK} (ha : SimA C t ma) : SimE C (tCall (spD C.K ms sd) [] E t) (mCall ms sd ma) := fun Γ O σ H Qd Q R h k => by
  refine ha Γ O σ H _ _ R h fun rs Γ1 vs H1 R1 p1 e1 q1 => ?_
  obtain ⟨ds, hd, hap, hsd⟩ := q1
  show spD C.K ms sd (vs ++ []) H1 Q E
  rw [List.append_nil]
  exact call_core R1 p1 hd hap hsd (fun r Γ' v H' r1 se q => k r Γ' v H' r1 (.after e1 se) q) fun _ _ _ _ _ _ _ _ _ _ z => z.elim
end
/-- f(..), f a def that lets no exception out for these arguments -/
theorem de_call {X : Cx} {C : Ctx} {k : Nat} {f : Addr} {fd : FuncData} {ps : List Str} {ms : List Md} {sd : DSp} {x : Str} {p pos : Pos} {e : Expr} {es : List Expr} {t : TA} {ma : DTA} (F : FnG X.prog X.w X.K X.mg X.base k f fd ps (spD X.K ms sd)) (hg : X.A.guards = some []) (hr : Room k X.A) (hgl : Gl X x) (hm : X.mg x = some (.ref f)) (hk : PySem.W.keepIn X.K (.ref f) = true) (hb : Binds X.K fd ps [])
    (ha : DA X C (e :: es) t ma) {K0 : Fg} (hK0 : X.K = K0 := by rfl) (hK : K0 = C.K := by rfl) (hdb : (x == ("__debug__" : Str)) = false := by decide) (he : starEach (e :: es) X.env = (false, eval e X.env) :: starEach es X.env := by rfl) (hpl : (backTo pos (starEach es X.env)).any (·.1) = false := by rfl) :
    DE X C (.Call (.Name x p) (e :: es) [] pos) (tCall (spD K0 ms sd) [] E0 t) (mCall ms sd ma) := by
  subst hK0
  exact (⟨pe_g F hg hr hgl hm hk hb .nil passL ha.pa hdb he hpl, by rw [hK]; exact sim_call ha.sim⟩)
/-! ### the end of a law -/
/-- the script as data -/
theorem only_rep {K : Fg} {H : Hp} {a : Addr} {ns : List Int} (h : SqL K H a (ns.map V.int)) : Rep K H (.ref a) (.scr (ns.map D.int)) := .scr h (Reps.of_ints ns)
theorem law_go {P : Program} {w : World} {K : Fg} {mg mb : Str → Option Value} {k : Nat} {fa a : Addr} {fd : FuncData} {x : Str} {sp : Sp} {s₁ : Shared} {vs : List Value} {ns : List Int}
    (KX : K.In s₁.heap) (hns : s₁.heap.Ns mainGlobals mg) (hb : s₁.heap.Ns builtinsNs mb) (hbb : ∀ x : Str, x ≠ "__name__" → mb x = bootBuiltins x) (hlim : s₁.heap.NoLimit) (hg : s₁.gens = #[])
    (ha : s₁.heap.get? a = some { cls := .type "list", data := .seq vs.toArray }) (hi : IntsAre vs ns) (hl : ns.length ≤ sizeLine) (hr : Room k callerA)
    (F : ∀ base : Heap, K.In base → base.Ns mainGlobals mg → FnG P w K mg base k fa fd [x] sp) (hbind : ∀ (s : Shared) (u : Value), BindsTo s fd ⟨[u], []⟩ [(x, u)])
    (hsp : ∀ H : Hp, Only H → SqL K H a (ns.map V.int) → sp [.ref a] H (fun v _ => v = .bl true) E0) :
    codeAny (model P w) callerA (.call (.ref fa) ⟨[.ref a], []⟩) (fun r s' => r = .ok (.ret (.bool true)) ∧ OldK s₁.heap s'.heap ∧ s'.os = s₁.os ∧ AllBare s'.gens) s₁ := by
  -- the layer's own end asks a def that keeps its promise everywhere; here one fixed surrounding is enough
  have one : ∀ base : Heap, K.In base → base.Ns mainGlobals mg → FnOk P w K mg base (fun o H s E u s' => False) 0 fa fd [x] (fun _ _ _ _ => False) := fun base _ _ => ⟨fun _ _ _ _ h => h.elim, fun _ _ _ _ _ _ _ _ _ _ _ _ _ h => h.elim⟩
  have rv := vals_ints hi
  have core : ∀ H : Hp, Only H → SqL K H a (ns.map V.int) → HOk P w H s₁.heap → (∀ b, H b ≠ none → b = a) → (H a ≠ none → K.lookup a = none) →
      codeAny (model P w) callerA (.call (.ref fa) ⟨[.ref a], []⟩) (fun r s' => r = .ok (.ret (.bool true)) ∧ OldK s₁.heap s'.heap ∧ s'.os = s₁.os ∧ AllBare s'.gens) s₁ := by
    intro H hO hS hok hA hK
    have none_or : ∀ b, H b = none ∨ b = a := fun b => by
      cases q : H b with
      | none => exact .inl rfl
      | some u => exact .inr (hA b (by rw [q]; simp))
    have free : ∀ {b : Addr} {o : Obj}, s₁.heap.get? b = some o → (∀ es ep, o.data = .dict es ep → True) → (b ≠ a) → H b = none := fun {b o} _ _ n => (none_or b).resolve_right n
    have isD : ∀ {b : Addr} {o : Obj} {es : Array DictEntry} {ep : Nat}, s₁.heap.get? b = some o → o.data = .dict es ep → b ≠ a := fun {b o es ep} e d z => by
      rw [z, ha] at e
      cases e
      cases d
    have nsK : ∀ {b : Addr} {m : Str → Option Value}, s₁.heap.Ns b m → (hidT s₁.heap H).Ns b m := fun {b m} h => by
      obtain ⟨o, es, ep, e, d, r⟩ := h
      exact ⟨o, es, ep, hidT_get e ((none_or b).resolve_right (isD e d)), d, r⟩
    have hKb : K.In (hidT s₁.heap H) := fun b o e => hidT_get (KX b o e) (by
      rcases none_or b with z | z
      · exact z
      · subst z
        cases q : H b with
        | none => rfl
        | some u => rw [hK (by rw [q]; simp)] at e; cases e)
    have hM : Mod K mg (hidT s₁.heap H) := ⟨hKb, nsK hns, ⟨mb, nsK hb, hbb⟩, hlim.elim fun mc h => ⟨mc, nsK h.1, h.2⟩⟩
    have e0 : Env0 P w K mg (hidT s₁.heap H) callerA [] s₁ H := ⟨rfl, hM, fun b o e => of_hidT e, Nat.le_of_eq (hidT_size _ _), trivial, fun b hb => absurd hb (by simp [frs]), hok, .of_eq hg⟩
    refine codeAny_mono ((F _ hKb (nsK hns)).go callerA rfl hr [] s₁ H ⟨[.ref a], []⟩ [.ref a] [.ref a] _ _ e0 (hbind s₁ (.ref a)) (.cons rfl .nil) (hsp H hO hS)) ?_
    intro r s' h
    match r, h with
    | .error e, h =>
      obtain ⟨_, _, _, _, _, _, _, _, _, _, _, _, z⟩ := (show L2N.CX P w [] H s₁ E0 e s' from h)
      exact z.elim
    | .ok .next, h => exact False.elim h
    | .ok .brk, h => exact False.elim h
    | .ok .cont, h => exact False.elim h
    | .ok (.ret u), h =>
      obtain ⟨v, H', os, bare, un, hok', r', q⟩ := h
      have q' : v = .bl true := q
      subst q'
      obtain rfl : u = Value.bool true := r'
      refine ⟨rfl, OldK.of_keep fun b o e => ?_, os, bare⟩
      rcases hO b with z | ⟨ob, xs, z⟩
      · exact un.keep b o e z (by simp [frs]) (by simp)
      · obtain ⟨e1, _⟩ := hok b _ z
        obtain ⟨e2, _⟩ := hok' b _ (un.frzs b ob _ z)
        rw [e] at e1
        cases e1
        exact e2
  cases hk : K.lookup a with
  | some o =>
    have e := KX a o hk
    rw [ha] at e
    cases e
    exact core (fun _ => none) (fun _ => .inl rfl) (.inr ⟨_, vs.toArray, _, hk, rfl, rfl, rfl, by rw [List.size_toArray, hi.length]; exact hl, by simpa using rv⟩) (fun b u z => by cases z) (fun b z => absurd rfl z) fun z => absurd rfl z
  | none =>
    refine core (fun b => if b = a then some (.frz { cls := .type "list", data := .seq vs.toArray } (.lst (ns.map V.int))) else none) (fun b => ?_) (.inl (.inr ⟨_, if_pos rfl⟩)) (fun b u z => ?_) (fun b z => ?_) fun _ => hk
    · by_cases hb : b = a
      · exact .inr ⟨_, _, if_pos hb⟩
      · exact .inl (if_neg hb)
    · by_cases hb : b = a
      · cases (if_pos hb).symm.trans z
        subst hb
        exact ⟨ha, by rw [List.length_map]; exact hl, vs, _, rv, ha⟩
      · cases (if_neg hb).symm.trans z
    · by_cases hb : b = a
      · exact hb
      · exact absurd (if_neg hb) z
theorem npv_only {H : Hp} {a : Addr} (hO : Only H) : ¬ Pv H a := fun z => by
  rcases z with ⟨o, h1, h2⟩ | ⟨b, o, h1, h2⟩
  · rcases hO a with z | ⟨ob, xs, z⟩ <;> rw [z] at h1 <;> cases h1
    cases h2
  · rcases hO b with z | ⟨ob, xs, z⟩ <;> rw [z] at h1 <;> cases h1
    cases h2
/-- what the law's own def promises -/
def lawSp (sd : DSp) : Prop := ∀ ns : List Int, ns.length ≤ 63 → sd [.scr (ns.map D.int)] (fun _ d _ => d = .bl true) noX
theorem walk_g {l : PySem.W.OpenLaw} {n k : Nat} {q : Program} {loose : List Str} {XP : (Str → Option Value) → Heap → Prop} {YP : World → Heap → Prop} {d : DefRec} {K : Params → Fg} {sd : DSp} {x : Str}
    (hn : l.most = some n) (hn2 : n ≤ sizeLine) (hdf : d.params.defaults = []) (hr : Room k callerA)
    (hY : ∀ (w : World) (h : Heap), YP w h → (K w.params).In h)
    (F : ∀ (w : World) (mg : Str → Option Value) (fa : Addr) (h : Heap), (K w.params).In h → h.Ns mainGlobals mg → mg d.name = some (.ref fa) →
      ∃ fd : FuncData, (∀ (s : Shared) (u : Value), BindsTo s fd ⟨[u], []⟩ [(x, u)]) ∧
        ∀ base : Heap, (K w.params).In base → base.Ns mainGlobals mg → FnG l.prog w (K w.params) mg base k fa fd [x] (spD (K w.params) [.S] sd))
    (hsd : ∀ ns : List Int, ns.length ≤ n → sd [.scr (ns.map D.int)] (fun _ d _ => d = .bl true) noX) :
    PySem.W.WalkO q loose XP YP l.row.toRowW d [] (fun f vs => PySem.call f vs) := by
  refine Att.attach_call hn hdf fun w s₀ s₁ mg mb fa o pm cd doc a vs ns G Y ho hd hcd hmg hobj hints hlen hg => ?_
  have KX := hY w _ Y
  obtain ⟨fd, hb, hF⟩ := F w mg fa _ KX G.T.g hmg
  refine law_go KX G.T.g G.T.b G.T.builtins G.T.nolimit hg hobj hints (Nat.le_trans hlen hn2) hr hF hb fun H hO hS => ?_
  refine ⟨[], [.scr (ns.map D.int)], [], _, noX, .S ?_ .nil, fun a h => absurd h (by simp), ⟨?_, ⟨fun b o l h1 h2 => ?_, fun _ z => .inr z, fun _ z => absurd z (npv_only hO)⟩⟩, fun z => (by cases z), hsd ns hlen, fun v H' O' b d ds' S' _ _ _ hres hq => ?_, fun _ _ _ _ _ _ _ _ _ _ _ _ _ z => z.elim⟩
  · have e : hide [] H = H := by
      funext b
      exact hide_out (by simp) (npv_only hO)
    rw [e]
    exact only_rep hS
  · show (mA .S (.ref a) ++ mAddrs [] []).Nodup
    exact List.nodup_nil
  · rcases hO b with z | ⟨ob, xs, z⟩ <;> rw [z] at h1 <;> cases h1
    cases h2
  · have hq : d = .bl true := hq
    subst hq
    cases b with
    | true =>
      rcases hres with ⟨_, _, _, _, _, _, h⟩ | ⟨_, _, _, _, _, _, h, _⟩ <;> cases h
    | false =>
      have h : Rep _ _ v (.bl true) := hres
      cases h
      rfl
end DL
/-! the data layer, part 11: methods of lists, assignments of several values -/
namespace DL
open PySem PySem.Spec PyProof.Rows L2
/-! ### methods of an own list -/
/-- the content of a place that may be changed -/
def mcont : Option Sl → Option D
  | some (.ow d) => some d
  | some (.io d) => some d
  | _ => none
/-- o.m(..) that changes the place: f of the content and the arguments: the new content, the answer -/
def mMut (f : D → List D → (D → Res → Prop) → Prop) (mo : DTE) (ma : DTA) : DTE := fun Γ Q => mo Γ fun ro Γ1 => ∃ i, ro = .pl i ∧ (∃ ds, cont Γ1[i]? = some (.lst ds)) ∧ ma Γ1 fun rs Γ2 => ∃ c ds, mcont Γ2[i]? = some c ∧ dats rs = some ds ∧ f c ds fun c' z => ∃ Γ3, setC Γ2 i c' = some Γ3 ∧ Q z Γ3
def appendD : D → List D → (D → Res → Prop) → Prop
  | .lst xs, [y], Q => xs.length < 100000 ∧ Q (.lst (xs ++ [y])) (.val .non)
  | _, _, _ => False
def insertD : D → List D → (D → Res → Prop) → Prop
  | .lst xs, [.int i, y], Q => (xs.length < 100000 ∧ 0 ≤ i ∧ i < 2 ^ 63) ∧ Q (.lst (xs.take i.toNat ++ [y] ++ xs.drop i.toNat)) (.val .non)
  | _, _, _ => False
def popD : D → List D → (D → Res → Prop) → Prop
  | .lst xs, [], Q => ∃ y, xs[xs.length - 1]? = some y ∧ Q (.lst xs.dropLast) (.val y)
  | .lst xs, [.int i], Q => (-(2 ^ 63) ≤ i ∧ i < 2 ^ 63) ∧ ∃ k y, seqIndex? i xs.length = some k ∧ xs[k]? = some y ∧ Q (.lst (xs.eraseIdx k)) (.val y)
  | _, _, _ => False
def reverseD : D → List D → (D → Res → Prop) → Prop
  | .lst xs, [], Q => Q (.lst xs.reverse) (.val .non)
  | _, _, _ => False
def clearD : D → List D → (D → Res → Prop) → Prop
  | .lst xs, [], Q => Q (.lst []) (.val .non)
  | _, _, _ => False
/-- a change by values -/
def SimMt (K : Fg) (r : V → List V → Hp → VK → Prop) (f : D → List D → (D → Res → Prop) → Prop) : Prop := ∀ (O : List Addr) (H : Hp) (l : Addr) (o : HO) (c : D) (vs : List V) (ds : List D) (Qd : D → Res → Prop) (Q : VK), H l = some o → OwnOk K (hide O H) o c → Reps K (hide O H) vs ds → f c ds Qd →
  (∀ o' c' v d, OwnOk K (hide O H) o' c' → Rep K (hide O H) v d → Qd c' (.val d) → Q v (upd H l o')) → r (.ref l) vs H Q
section
variable {K : Fg} {C : Ctx} {X : Cx}
theorem Reps.one {H : Hp} {vs : List V} {d : D} (h : Reps K H vs [d]) : ∃ v, vs = [v] ∧ Rep K H v d := by
  cases h with | cons h t => cases t; exact ⟨_, rfl, h⟩
theorem Reps.two {H : Hp} {vs : List V} {d e : D} (h : Reps K H vs [d, e]) : ∃ v w, vs = [v, w] ∧ Rep K H v d ∧ Rep K H w e := by
  cases h with | cons h t => cases t with | cons h' t => cases t; exact ⟨_, _, rfl, h, h'⟩
theorem smt_append : SimMt K rAppend appendD := fun O H l o c vs ds Qd Q hl ho hr q k => by
  unfold appendD at q
  split at q
  · cases ho with
    | lst rr =>
      obtain ⟨v, rfl, rv⟩ := hr.one
      exact ⟨l, _, v, rfl, rfl, hl, by rw [rr.length]; exact Nat.lt_of_lt_of_le q.1 (by decide), k _ _ _ _ (.lst (rr.append (.cons rv .nil))) .non q.2⟩
  · exact q.elim
theorem mcont_of {Γ : Env} {i : Nat} {c : D} (h : mcont Γ[i]? = some c) : Γ[i]? = some (.ow c) ∨ Γ[i]? = some (.io c) := by
  unfold mcont at h
  split at h
  · rename_i d e; cases h; exact .inl e
  · rename_i d e; cases h; exact .inr e
  · cases h
theorem sim_mut {to : TE} {t : TA} {mo : DTE} {ma : DTA} {r : V → List V → Hp → VK → Prop} {f : D → List D → (D → Res → Prop) → Prop} (ho : SimE C to mo) (ha : SimA C t ma) (hr : SimMt C.K r f) : SimE C (tBM C.K "list" r to t) (mMut f mo ma) := fun Γ O σ H Qd Q R h k => by
  refine ho Γ O σ H _ _ R h fun ro Γ1 x H1 R1 e1 q1 => ?_
  obtain ⟨i, rfl, ⟨ds0, hc0⟩, q1⟩ := q1
  obtain ⟨a, vs0, rfl, hl0, _⟩ := (Pend.b2 (r := .pl i) R1.rel R1.2 hc0).lst
  refine ⟨.inl ⟨rfl, _, SqL.of hl0⟩, ?_⟩
  refine ha Γ1 O σ H1 _ _ R1.rel q1 fun rs Γ2 vs H2 R2 p2 e2 q2 => ?_
  obtain ⟨c, ds, hc, hd, q⟩ := q2
  have hs : σ[i]? = some (some (.ref a)) := R1.2
  have hm := mcont_of hc
  have pl : ∃ o, H2 a = some o ∧ OwnOk C.K (hide O H2) o c := by
    rcases hm with g | g
    · obtain ⟨l, o, h1, _, _, h4, h5⟩ := R2.sl i _ g
      rw [hs] at h1; cases h1; exact ⟨o, h4, h5⟩
    · obtain ⟨l, o, h1, _, _, h4, h5⟩ := R2.sl i _ g
      rw [hs] at h1; cases h1; exact ⟨o, h4, h5⟩
  obtain ⟨o, hl, hb⟩ := pl
  refine hr O H2 a o c vs ds _ Q hl hb (dats_ok p2 hd) q fun o' c' v d ho' hv hq => ?_
  obtain ⟨Γ3, hset, hq⟩ := hq
  obtain ⟨R3, e3⟩ := set_relO R2 hset hs ho'
  exact k (.val d) Γ3 v _ ⟨R3, hv.mono e3⟩ (.val (L2.Same.trans e1.1 (L2.Same.trans e2 e3))) hq
variable {o e : Expr} {es : List Expr} {to : TE} {t : TA} {mo : DTE} {ma : DTA} {apos cpos : Pos}
theorem de_append (h : PE X o to → PA X [e] t → PE X (.Call (.Attribute o "append" apos) [e] [] cpos) (tBM X.K "list" rAppend to t)) (ho : DE X C o to mo) (ha : DA X C [e] t ma) {K0 : Fg} (hK0 : X.K = K0 := by rfl) (hK : K0 = C.K := by rfl) : DE X C (.Call (.Attribute o "append" apos) [e] [] cpos) (tBM K0 "list" rAppend to t) (mMut appendD mo ma) := by
  subst hK0
  exact (⟨h ho.pe ha.pa, by rw [hK]; exact sim_mut ho.sim ha.sim smt_append⟩)
end
/-! ### several values at once -/
inductive PR (K : Fg) (O : List Addr) (H : Hp) : List (Addr × HO) → List V → List Res → Prop
  | nil : PR K O H [] [] []
  | val {us : List (Addr × HO)} {v : V} {d : D} {vs : List V} {rs : List Res} : Rep K (hide O H) v d → PR K O H us vs rs → PR K O H us (v :: vs) (.val d :: rs)
  | fr {us : List (Addr × HO)} {p : Addr} {o : HO} {d : D} {vs : List V} {rs : List Res} : OwnOk K (hide O H) o d → PR K O H us vs rs → PR K O H ((p, o) :: us) (.ref p :: vs) (.fr d :: rs)
theorem PR.mono {K : Fg} {O O' : List Addr} {H H' : Hp} (e : Same (hide O H) (hide O' H')) : ∀ {us : List (Addr × HO)} {vs : List V} {rs : List Res}, PR K O H us vs rs → PR K O' H' us vs rs
  | _, _, _, .nil => .nil
  | _, _, _, .val h t => .val (h.mono e) (PR.mono e t)
  | _, _, _, .fr h t => .fr (h.mono e) (PR.mono e t)
/-- values that wait, with the new objects among them owned -/
structure RelP (C : Ctx) (Γ : Env) (O : List Addr) (σ : L2.St) (H : Hp) (us : List (Addr × HO)) (vs : List V) (rs : List Res) : Prop where
  rel : RelO { C with U := us ++ C.U } Γ O σ H
  pr : PR C.K O H us vs rs
  nd : (us.map (·.1)).Nodup
  h0 : ∀ q ∈ us, C.H0 q.1 = none
  ap : ∀ q ∈ us, ∀ q' ∈ C.U, q'.1 ≠ q.1
abbrev DTP := Env → (List Res → Env → Prop) → Prop
def SimP (C : Ctx) (t : TA) (m : DTP) : Prop := ∀ (Γ : Env) (O : List Addr) (σ : L2.St) (H : Hp) (Qd : List Res → Env → Prop) (Q : List V → Hp → Prop), RelO C Γ O σ H → m Γ Qd →
  (∀ rs Γ' vs H' O' us, RelP C Γ' O' σ H' us vs rs → Same (hide O H) (hide O' H') → (∀ a ∈ O, a ∈ O') → Qd rs Γ' → Q vs H') → t σ H Q
def isPl : Res → Bool
  | .pl _ => true
  | .np _ _ => true
  | .hd _ => true
  | _ => false
def mPNil : DTP := fun Γ Q => Q [] Γ
def mPCons (ma : DTE) (mr : DTP) : DTP := fun Γ Q => ma Γ fun r Γ1 => isPl r = false ∧ mr Γ1 fun rs Γ2 => Q (r :: rs) Γ2
section
variable {C : Ctx}
theorem sim_pnil : SimP C tNil mPNil := fun Γ O σ H Qd Q R h k => k [] Γ [] H O [] ⟨R.congrU R.uu, .nil, List.nodup_nil, fun _ h => absurd h (by simp), fun _ h => absurd h (by simp)⟩ (L2.Same.refl _) (fun _ h => h) h
theorem sim_pcons {ta : TE} {tr : TA} {ma : DTE} {mr : DTP} (ha : SimE C ta ma) (hr : ∀ U, SimP { C with U := U } tr mr) : SimP C (tCons ta tr) (mPCons ma mr) := fun Γ O σ H Qd Q R h k => by
  refine ha Γ O σ H _ _ R h fun r Γ1 v H1 R1 e1 q1 => ?_
  obtain ⟨hp, q1⟩ := q1
  cases r with
  | pl i => cases hp
  | np a ds => cases hp
  | hd a => cases hp
  | val d =>
    refine hr C.U Γ1 O σ H1 _ _ R1.1 q1 fun rs Γ2 vs H2 O2 us P2 e2 s2 q2 => ?_
    exact k _ Γ2 _ H2 O2 us ⟨P2.rel, .val (R1.2.mono e2) P2.pr, P2.nd, P2.h0, P2.ap⟩ (L2.Same.trans e1.1 e2) s2 q2
  | fr d =>
    obtain ⟨R0, p, o, rfl, hpp, hpO, h0, ho, R2⟩ := R1
    have hm : ∀ i, ¬ MutAt Γ1 σ i p := fun i m => hpO (R0.mutIn m)
    have hU : ∀ q ∈ C.U, q.1 ≠ p := fun q hq z => hpO (z ▸ (R0.uu q hq).2.1)
    have RU : RelO { C with U := (p, o) :: C.U } Γ1 (p :: O) σ H1 := R2.congrU fun q hq => by
      rcases List.mem_cons.mp hq with z | z
      · subst z; exact ⟨hpp, List.mem_cons_self, hm⟩
      · exact R2.uu q z
    have es : Same (hide O H) (hide (p :: O) H1) := e1.2 d p rfl rfl
    refine hr ((p, o) :: C.U) Γ1 (p :: O) σ H1 _ _ RU q1 fun rs Γ2 vs H2 O2 us P2 e2 s2 q2 => ?_
    have apP : ∀ q ∈ us, q.1 ≠ p := fun q hq z => P2.ap q hq (p, o) List.mem_cons_self z.symm
    refine k _ Γ2 _ H2 O2 ((p, o) :: us) ⟨P2.rel.subU (U' := (p, o) :: us ++ C.U) (C := C) fun q hq => ?_, .fr (ho.mono e2) P2.pr, List.nodup_cons.mpr ⟨fun z => ?_, P2.nd⟩, fun q hq => ?_, fun q hq q' hq' => ?_⟩ ?_ (fun a ha => s2 a (List.mem_cons_of_mem _ ha)) q2
    · rcases List.mem_append.mp hq with z | z
      · rcases List.mem_cons.mp z with z | z
        · subst z; exact List.mem_append_right _ List.mem_cons_self
        · exact List.mem_append_left _ z
      · exact List.mem_append_right _ (List.mem_cons_of_mem _ z)
    · obtain ⟨q, hq, e⟩ := List.mem_map.mp z
      exact apP q hq e
    · rcases List.mem_cons.mp hq with z | z
      · subst z; exact h0
      · exact P2.h0 q z
    · rcases List.mem_cons.mp hq with z | z
      · subst z; exact hU q' hq'
      · exact P2.ap q z q' (List.mem_cons_of_mem _ hq')
    · exact L2.Same.trans es e2
end
end DL
/-! the data layer, part 12: a, b = x, y; x[i] op= e -/
namespace DL
open PySem PySem.Spec PyProof.Rows L2
inductive Tg where
  | sh (i : Nat)
  | ow (i : Nat)
  | sub (mo mi : DTE)
  | gen (mg : DTG)
def mTgs : List Tg → List Res → Env → (Env → Prop) → Prop
  | [], [], Γ, Q => Q Γ
  | .sh i :: ts, r :: rs, Γ, Q => ∃ d, dat r = some d ∧ freeB Γ i = true ∧ mTgs ts rs (Γ.set i (.sh d)) Q
  | .ow i :: ts, r :: rs, Γ, Q => ∃ d, r = .fr d ∧ freeB Γ i = true ∧ mTgs ts rs (Γ.set i (.ow d)) Q
  | .sub mo mi :: ts, r :: rs, Γ, Q => ∃ d, dat r = some d ∧ mgSub mo mi stD d Γ fun Γ1 => mTgs ts rs Γ1 Q
  | .gen mg :: ts, r :: rs, Γ, Q => ∃ d, dat r = some d ∧ mg d Γ fun Γ1 => mTgs ts rs Γ1 Q
  | _, _, _, _ => False
def SimTs (C : Ctx) (g : TGs) (ts : List Tg) : Prop := ∀ (Γ : Env) (O : List Addr) (σ : L2.St) (H : Hp) (us : List (Addr × HO)) (vs : List V) (rs : List Res) (Qd : Env → Prop) (Q : L2.St → Hp → Prop), RelP C Γ O σ H us vs rs → mTgs ts rs Γ Qd →
  (∀ Γ' O' σ' H', RelO C Γ' O' σ' H' → Qd Γ' → Q σ' H') → g vs σ H Q
section
variable {C : Ctx} {Γ : Env} {O : List Addr} {σ : L2.St} {H : Hp} {us : List (Addr × HO)} {v : V} {vs : List V} {r : Res} {rs : List Res} {d : D} {i : Nat}
/-- the first of the waiting values is taken as shared -/
theorem RelP.take (P : RelP C Γ O σ H us (v :: vs) (r :: rs)) (hd : dat r = some d) : ∃ O' us', RelP C Γ O' σ H us' vs rs ∧ Rep C.K (hide O' H) v d := by
  cases P with
  | mk R pr nd h0 ap =>
    cases pr with
    | val h t => cases hd; exact ⟨O, us, ⟨R, t, nd, h0, ap⟩, h⟩
    | fr h t =>
      rename_i us' p o d'
      cases hd
      obtain ⟨n1, n2⟩ := List.nodup_cons.mp nd
      have apU : ∀ q ∈ us', q.1 ≠ p := fun q hq z => n1 (by rw [← z]; exact List.mem_map.mpr ⟨q, hq, rfl⟩)
      obtain ⟨hp, hpO, hm⟩ := R.uu (p, o) List.mem_cons_self
      have R' : RelO { C with U := us' ++ C.U } Γ O σ H := R.subU (U' := us' ++ C.U) (C := C) fun q hq => List.mem_cons_of_mem _ hq
      obtain ⟨R2, e⟩ := R'.letgo (p := p) (O' := O.filter fun a => decide (a ≠ p)) (h0 (p, o) List.mem_cons_self) hm (fun q hq => by
        rcases List.mem_append.mp hq with z | z
        · exact apU q z
        · exact ap (p, o) List.mem_cons_self q z) fun a => by simp [List.mem_filter]
      refine ⟨_, us', ⟨R2, t.mono e, n2, fun q hq => h0 q (List.mem_cons_of_mem _ hq), fun q hq => ap q (List.mem_cons_of_mem _ hq)⟩, (h.mono e).rep ?_⟩
      rw [hide_out (by simp [List.mem_filter]) (R.npv hpO)]
      exact hp
theorem sim_tnil : SimTs C gNil [] := fun Γ O σ H us vs rs Qd Q P h k => by
  cases P with
  | mk R pr nd h0 ap =>
    cases pr with
    | nil => exact ⟨rfl, k Γ O σ H (R.backU (C := C) fun q hq => List.mem_append_right _ hq) h⟩
    | val _ _ => exact h.elim
    | fr _ _ => exact h.elim
theorem sim_tsh {gs : TGs} {ts : List Tg} (hs : SimTs C gs ts) (i : Nat) : SimTs C (gCons (gName i) gs) (.sh i :: ts) := fun Γ O σ H us vs rs Qd Q P h k => by
  cases rs with
  | nil => exact h.elim
  | cons r rs =>
    obtain ⟨d, hd, hf, h⟩ := h
    cases vs with
    | nil => cases P.pr
    | cons v vs =>
      obtain ⟨O', us', P', hr⟩ := P.take hd
      exact ⟨v, vs, rfl, hs _ O' _ H us' vs rs _ _ ⟨P'.rel.setSh (freeB_of hf) hr, P'.pr, P'.nd, P'.h0, P'.ap⟩ h k⟩
theorem sim_tow {gs : TGs} {ts : List Tg} (hs : SimTs C gs ts) (i : Nat) : SimTs C (gCons (gName i) gs) (.ow i :: ts) := fun Γ O σ H us vs rs Qd Q P h k => by
  cases rs with
  | nil => exact h.elim
  | cons r rs =>
    obtain ⟨d, rfl, hf, h⟩ := h
    cases P with
    | mk R pr nd h0 ap =>
      cases pr with
      | fr ho t =>
        rename_i us' p o vs
        obtain ⟨n1, n2⟩ := List.nodup_cons.mp nd
        obtain ⟨hp, hpO, hm⟩ := R.uu (p, o) List.mem_cons_self
        have R' : RelO { C with U := us' ++ C.U } Γ O σ H := R.subU (U' := us' ++ C.U) (C := C) fun q hq => List.mem_cons_of_mem _ hq
        have hU : ∀ q ∈ us' ++ C.U, q.1 ≠ p := fun q hq => by
          rcases List.mem_append.mp hq with z | z
          · exact fun e => n1 (by rw [← e]; exact List.mem_map.mpr ⟨q, z, rfl⟩)
          · exact ap (p, o) List.mem_cons_self q z
        have R2 : RelO { C with U := us' ++ C.U } (Γ.set i (.ow d)) O (σ.set i (some (.ref p))) H := R'.set (freeB_of hf) (fun hl => ⟨p, o, List.getElem?_set_self hl, hpO, h0 (p, o) List.mem_cons_self, hp, ho⟩) (fun j a n m1 m2 => by
          have e := get_set_same m2.ow2
          have e2 := V.ref.inj (Option.some.inj e)
          exact hm j (by rw [e2]; exact m1)) fun q hq m => by
            have e := get_set_same m.ow2
            exact hU q hq (V.ref.inj (Option.some.inj e)).symm
        exact ⟨.ref p, vs, rfl, hs _ O _ H us' vs rs _ _ ⟨R2, t, n2, fun q hq => h0 q (List.mem_cons_of_mem _ hq), fun q hq => ap q (List.mem_cons_of_mem _ hq)⟩ h k⟩
def mPar (mp : DTP) (ts : List Tg) : DTS := fun D Γ => mp Γ fun rs Γ1 => mTgs ts rs Γ1 D.nx
theorem sim_par2 {ta : TA} {mp : DTP} {i j : Nat} {t1 t2 : Tg} (hp : SimP C ta mp) (hs : SimTs C (gCons (gName i) (gCons (gName j) gNil)) [t1, t2]) : SimS C (tPar i j ta) (mPar mp [t1, t2]) := fun Γ O σ H D Dd R h L =>
  hp Γ O σ H _ _ R h fun rs Γ1 vs H1 O1 us P e s q => by
    obtain ⟨v, r, rfl, v2, r2, rfl, rfl, q2⟩ := hs Γ1 O1 σ H1 us vs rs _ D.nx P q fun Γ2 O2 σ2 H2 R2 q2 => L.nx Γ2 O2 σ2 H2 R2 q2
    exact ⟨v, v2, rfl, q2⟩
theorem sim_par3 {ta : TA} {mp : DTP} {i j l : Nat} {t1 t2 t3 : Tg} (hp : SimP C ta mp) (hs : SimTs C (gCons (gName i) (gCons (gName j) (gCons (gName l) gNil))) [t1, t2, t3]) : SimS C (tPar3 i j l ta) (mPar mp [t1, t2, t3]) := fun Γ O σ H D Dd R h L =>
  hp Γ O σ H _ _ R h fun rs Γ1 vs H1 O1 us P e s q => by
    obtain ⟨v, r, rfl, v2, r2, rfl, v3, r3, rfl, rfl, q2⟩ := hs Γ1 O1 σ H1 us vs rs _ D.nx P q fun Γ2 O2 σ2 H2 R2 q2 => L.nx Γ2 O2 σ2 H2 R2 q2
    exact ⟨v, v2, v3, rfl, q2⟩
theorem PR.len {K : Fg} : ∀ {us : List (Addr × HO)} {vs : List V} {rs : List Res}, PR K O H us vs rs → vs.length = rs.length
  | _, _, _, .nil => rfl
  | _, _, _, .val _ t => by rw [List.length_cons, List.length_cons, PR.len t]
  | _, _, _, .fr _ t => by rw [List.length_cons, List.length_cons, PR.len t]
end
/-- the values on the right -/
structure DPa (X : Cx) (C : Ctx) (es : List Expr) (t : TA) (m : DTP) : Prop where
  pa : PA X es t
  sim : SimP C t m
def mPar3 (n : Nat) (mp : DTP) (ts : List Tg) : DTS := fun D Γ => mp Γ fun rs Γ1 => rs.length = n ∧ mTgs ts rs Γ1 D.nx
section
variable {X : Cx} {C : Ctx} {st : Stmt} {ta : TA} {mp : DTP} {e : Expr} {es : List Expr} {te : TE} {me : DTE} {pos : Pos}
theorem dp_nil : DPa X C [] tNil mPNil := ⟨pa_nil, sim_pnil⟩
theorem dp_cons {tr : TA} {mr : DTP} (ha : DE X C e te me) (hr : ∀ U, DPa X { C with U := U } es tr mr) (hs : starEach (e :: es) X.env = (false, eval e X.env) :: starEach es X.env := by rfl) : DPa X C (e :: es) (tCons te tr) (mPCons me mr) := ⟨pa_cons ha.pe (hr C.U).pa hs, sim_pcons ha.sim fun U => (hr U).sim⟩
/-- a, b = x, y: plain local names -/
theorem ds_par2 {i j : Nat} {t1 t2 : Tg} (h : PA X es ta → PS X st (tPar i j ta)) (hp : DPa X C es ta mp) (hs : SimTs C (gCons (gName i) (gCons (gName j) gNil)) [t1, t2]) : DS X C st (tPar i j ta) (mPar mp [t1, t2]) := ⟨h hp.pa, sim_par2 hp.sim hs⟩
theorem ds_par3 {i j l : Nat} {t1 t2 t3 : Tg} (h : PA X es ta → PS X st (tPar3 i j l ta)) (hp : DPa X C es ta mp) (hs : SimTs C (gCons (gName i) (gCons (gName j) (gCons (gName l) gNil))) [t1, t2, t3]) : DS X C st (tPar3 i j l ta) (mPar mp [t1, t2, t3]) := ⟨h hp.pa, sim_par3 hp.sim hs⟩
end
/-! ### x[i] op= e -/
theorem get_listG {X : Cx} : PGet X (rIxL X.K) := by
  intro pins s σ H x y v u Q I rx ry h
  obtain ⟨p, xs, i, z, rfl, rfl, hq, he, q⟩ := h
  cases rx
  obtain ⟨t, rfl⟩ := ry
  obtain ⟨its, r, pl, hz⟩ := I.list hq
  obtain ⟨j, h1, h2, h3, h4, h5⟩ := atI_get he
  obtain ⟨w, ew, rw'⟩ := r.get h2
  have hl := r.length
  have hn := line63
  have fin : EP X pins σ Q w s := ⟨z, H, I, rw', q⟩
  rcases Int.lt_or_le i 0 with h0 | h0
  · have hj : (i + (its.toArray.size : Int)).toNat = j := by
      rw [seqIndex_neg (by omega) h4] at h1
      rw [List.size_toArray, ← hl]
      exact Option.some.inj h1
    exact wpAny_getItem_list_neg pl.isList (by omega) (by rw [List.size_toArray] <;> omega) (by omega) (by rw [hj]; simpa using ew) fin
  · have hj : i.toNat = j := by
      rw [seqIndex_of h0 h5] at h1
      exact Option.some.inj h1
    exact wpAny_getItem_list pl.isList h0 (by omega) (by rw [hj]; simpa using ew) fin
def mAugS (mo mi me : DTE) (f : D → D → (Res → Prop) → Prop) : DTS := fun D Γ => mo Γ fun ro Γ1 => mi Γ1 fun ri Γ2 => ∃ i ds k x, ro = .pl i ∧ cont Γ2[i]? = some (.lst ds) ∧ ri = .val (.int k) ∧ atI ds k = some x ∧ me Γ2 fun rv Γ3 => ∃ y, rd Γ3 rv = some y ∧ f x y fun z => ∃ d ds3 j, z = .val d ∧ cont Γ3[i]? = some (.lst ds3) ∧ ixN ds3.length k = some j ∧ ∃ Γ4, setC Γ3 i (.lst (ds3.set j d)) = some Γ4 ∧ D.nx Γ4
section
variable {C : Ctx} {to ti te : TE} {mo mi me : DTE}
theorem sim_augS {g : Int → Int → Int} {f : D → D → (Res → Prop) → Prop} (hf : ∀ a b Q, f a b Q → ∃ i j, a = .int i ∧ b = .int j ∧ Q (.val (.int (g i j)))) (ho : SimE C to mo) (hi : SimE C ti mi) (he : SimE C te me) : SimS C (tAugS to ti te (rIxL C.K) (ipI g) rSetL) (mAugS mo mi me f) := fun Γ O σ H D Dd R h L => by
  refine ho Γ O σ H _ _ R h fun ro Γ1 xo H1 R1 e1 q1 => ?_
  refine hi Γ1 O σ H1 _ _ R1.rel q1 fun ri Γ2 xi H2 R2 e2 q2 => ?_
  obtain ⟨i, ds, k, x, rfl, hc, rfl, hx, q2⟩ := q2
  have hs : σ[i]? = some (some xo) := R1.2
  obtain ⟨a, vs, rfl, hl, hr⟩ := (Pend.b2 (r := .pl i) R2.1 hs hc).lst
  obtain rfl := (show B2 C.K O H2 xi (.int k) from .inl R2.2).int
  obtain ⟨v, hv, rv⟩ := hr.atI hx
  refine ⟨a, vs, k, v, rfl, rfl, SqL.of hl, hv, ?_⟩
  refine he Γ2 O σ H2 _ _ R2.1 q2 fun rr Γ3 y H3 R3 e3 q3 => ?_
  obtain ⟨dy, hy, q3⟩ := q3
  obtain ⟨m, n, rfl, rfl, d, ds3, j, hd, hc3, hj, Γ4, hset, q3⟩ := hf x dy _ q3
  cases hd
  obtain rfl := (show B2 C.K O H2 v (.int m) from .inl rv).int
  obtain rfl := (R3.pend.b2 R3.rel hy).int
  refine ⟨m, n, rfl, rfl, ?_⟩
  obtain ⟨a3, vs3, e, hl3, hr3⟩ := (Pend.b2 (r := .pl i) R3.rel hs hc3).lst
  cases e
  obtain ⟨R4, e4⟩ := set_relO (o := .lst (vs3.set j (.int (g m n)))) R3.rel hset hs (.lst (hr3.set (.int _) j))
  exact ⟨a, vs3, k, j, rfl, rfl, hl3, by rw [hr3.length]; exact hj, L.nx Γ4 O σ _ R4 q3⟩
end
section
variable {X : Cx} {C : Ctx} {o i e : Expr} {st : Stmt} {to ti te : TE} {mo mi me : DTE}
theorem ds_augSA (h : PE X o to → PE X i ti → PE X e te → PS X st (tAugS to ti te (rIxL X.K) (ipI fun i j => i + j) rSetL)) (ho : DE X C o to mo) (hi : DE X C i ti mi) (he : DE X C e te me) {K0 : Fg} (hK0 : X.K = K0 := by rfl) (hK : K0 = C.K := by rfl) : DS X C st (tAugS to ti te (rIxL K0) (ipI fun i j => i + j) rSetL) (mAugS mo mi me addI) := by
  subst hK0
  exact (⟨h ho.pe hi.pe he.pe, by
    rw [hK]
    exact sim_augS (fun a b Q h => by
      unfold addI at h
      split at h
      · exact ⟨_, _, rfl, rfl, h⟩
      · exact h.elim) ho.sim hi.sim he.sim⟩)
end
end DL
namespace DL
open PySem L2 PyProof.Rows
/-! ### repr of data with dicts -/
mutual
def plainZ : D → Bool
  | .non => true
  | .bl _ => true
  | .int _ => true
  | .str _ => true
  | .lst ds => plainZs ds
  | .scr ds => plainZs ds
  | .tup ds => plainZs ds
  | .dic kvs => plainZk kvs
  | .dkl kvs => plainZk kvs
  | .dit _ => false
  | .dtl _ => false
  | .pnK _ _ => false
  | .pnT _ _ => false
  | .obj _ _ _ => false
  | .cls _ => false
  | .xcl _ _ => false
  | .sto _ => false
def plainZs : List D → Bool
  | [] => true
  | d :: ds => plainZ d && plainZs ds
def plainZk : List (L2.Key × D) → Bool
  | [] => true
  | (_, d) :: ds => plainZ d && plainZk ds
end
/-- a value at this place of the heap prints as the data say -/
structure Told (P : Program) (w : World) (h : Heap) (u : Value) (d : PyData) : Prop where
  rd : ∃ as, Reads h u d as
  rp : ∃ bs, ReadAtMost h d.depth bs ∧ ReprK P w bs h d.depth u d.shown
structure Tolds (P : Program) (w : World) (h : Heap) (us : List Value) (ds : List PyData) : Prop where
  rd : ∃ as, ReadsAll h us ds as
  rp : ∃ bs, ReadAtMost h (PyData.depthAll ds) bs ∧ ReprAllK P w bs h (PyData.depthAll ds) us (PyData.shownAll ds)
section
variable {P : Program} {w : World} {h : Heap}
theorem Told.of_is {u : Value} {d : PyData} (r : Reads h u d []) (k : ReprIs P w u d.shown) : Told P w h u d := ⟨⟨_, r⟩, [], (fun _ z => nomatch z), .of_is k _ _ _⟩
theorem Tolds.nil : Tolds P w h [] [] := ⟨⟨_, .nil⟩, [], (fun _ z => nomatch z), by rw [PyData.shownAll]; exact .nil⟩
theorem atMost_app {m n : Nat} {b c : List Addr} (x : ReadAtMost h m b) (y : ReadAtMost h n c) : ReadAtMost h (max m n) (b ++ c) := (x.mono (Nat.le_max_left _ _)).append (y.mono (Nat.le_max_right _ _))
theorem Tolds.cons {u : Value} {d : PyData} {us : List Value} {ds : List PyData} (x : Told P w h u d) (y : Tolds P w h us ds) : Tolds P w h (u :: us) (d :: ds) := by
  obtain ⟨⟨a, ra⟩, b, hb, kb⟩ := x
  obtain ⟨⟨a', ra'⟩, b', hb', kb'⟩ := y
  refine ⟨⟨_, .cons ra ra'⟩, b ++ b', by rw [PyData.depthAll]; exact atMost_app hb hb', ?_⟩
  rw [PyData.depthAll, PyData.shownAll]
  exact .cons ((kb.more fun c hc => List.mem_append_left _ hc).level_le (Nat.le_max_left _ _)) (kb'.more_le (fun c hc => List.mem_append_right _ hc) (Nat.le_max_right _ _))
/-- the own address is none of those below -/
theorem apart {a : Addr} {d : PyData} {as bs : List Addr} {n : Nat} (r : Reads h (.ref a) d as) (e : d.depth = n + 1) (hb : ReadAtMost h n bs) : a ∉ bs := not_mem_of_deeper r (by omega) hb
theorem Told.list {a : Addr} {o : Obj} {n : Nat} {us : List Value} {ds : List PyData} (h1 : h.get? a = some o) (h2 : o.cls = .type "list") (h3 : o.data = .seq us.toArray n) (x : Tolds P w h us ds) : Told P w h (.ref a) (.list ds) := by
  obtain ⟨⟨as, ra⟩, b, hb, kb⟩ := x
  have r : Reads h (.ref a) (.list ds) _ := .list h1 h2 h3 (by simpa using ra)
  have ed : (PyData.list ds).depth = PyData.depthAll ds + 1 := by rw [PyData.depth]
  refine ⟨⟨_, r⟩, a :: b, ReadAtMost.cons r (by omega) hb, ?_⟩
  rw [ed, PyData.shown]
  cases us with
  | nil =>
    cases ra
    rw [PyData.shownAll, listText_nil]
    exact ReprK.listEmpty h1 h2 h3
  | cons y us => exact ReprK.list h1 h2 h3 (apart r ed hb) (by simpa using kb.length_eq) fun i y e => kb.item i y (by simpa using e)
theorem Told.tuple {a : Addr} {o : Obj} {n : Nat} {us : List Value} {ds : List PyData} (h1 : h.get? a = some o) (h2 : o.cls = .type "tuple") (h3 : o.data = .seq us.toArray n) (x : Tolds P w h us ds) : Told P w h (.ref a) (.tuple ds) := by
  obtain ⟨⟨as, ra⟩, b, hb, kb⟩ := x
  have r : Reads h (.ref a) (.tuple ds) _ := .tuple h1 h2 h3 (by simpa using ra)
  have ed : (PyData.tuple ds).depth = PyData.depthAll ds + 1 := by rw [PyData.depth]
  refine ⟨⟨_, r⟩, a :: b, ReadAtMost.cons r (by omega) hb, ?_⟩
  rw [ed, PyData.shown]
  exact ReprK.tuple h1 h2 h3 (apart r ed hb) (by simpa using kb)
theorem Told.dict {a : Addr} {o : Obj} {n : Nat} {es : Array DictEntry} {ps : List (PyData × PyData)} (hs : (a == sysModules) = false) (h1 : h.get? a = some o) (h2 : o.cls = .type "dict") (h3 : o.data = .dict es n)
    (x : Tolds P w h (es.toList.map (·.key)) (ps.map (·.1))) (y : Tolds P w h (es.toList.map (·.val)) (ps.map (·.2))) : Told P w h (.ref a) (.dict ps) := by
  obtain ⟨⟨a1, r1⟩, b1, hb1, k1⟩ := x
  obtain ⟨⟨a2, r2⟩, b2, hb2, k2⟩ := y
  have r : Reads h (.ref a) (.dict ps) _ := .dict h1 h2 h3 r1 r2
  have ed : (PyData.dict ps).depth = PyData.depthKv ps + 1 := by rw [PyData.depth]
  have hb : ReadAtMost h (PyData.depthKv ps) (b1 ++ b2) := (hb1.mono (PyData.depthAll_keys_le ps)).append (hb2.mono (PyData.depthAll_vals_le ps))
  refine ⟨⟨_, r⟩, a :: (b1 ++ b2), ReadAtMost.cons r (by omega) hb, ?_⟩
  rw [ed, PyData.shown, PyData.shownKv_eq]
  exact ReprK.dict h1 h2 h3 hs (apart r ed hb) (ReprEntriesK.of_two es.toList _ _ (k1.more_le (fun c hc => List.mem_append_left _ hc) (PyData.depthAll_keys_le ps)) (k2.more_le (fun c hc => List.mem_append_right _ hc) (PyData.depthAll_vals_le ps)))
theorem shows_list {a : Addr} {o : Obj} {n : Nat} {us : List Value} {ds : List PyData} (h1 : h.get? a = some o) (h2 : o.cls = .type "list") (h3 : o.data = .seq us.toArray n) (x : Tolds P w h us ds) (hz : (PyData.list ds).shown.length ≤ sizeLine) : ∃ T i, ShowsBy P w h a (.list ds) T i := by
  obtain ⟨⟨as, ra⟩, b, hb, kb⟩ := x
  have r : Reads h (.ref a) (.list ds) _ := .list h1 h2 h3 (by simpa using ra)
  have ed : (PyData.list ds).depth = PyData.depthAll ds + 1 := by rw [PyData.depth]
  have es : (PyData.list ds).shown = listText (PyData.shownAll ds) := by rw [PyData.shown]
  refine ⟨"list", "list.__repr__", F.slot_list_repr.toG, F.slot_list_str, F.slot_list_format, fun s hk => ⟨o, hk _ _ h1, h2⟩, fun A E s Q hg hu hk q => ?_⟩
  rw [ed] at hu
  rw [es] at q hz
  cases us with
  | nil =>
    cases ra
    rw [PyData.shownAll, listText_nil] at q
    exact call_list_repr_empty ⟨o, hk _ _ h1, h2⟩ (hk _ _ h1) h3 (q s.heap _ _ fun _ _ e => e)
  | cons y us => exact call_list_reprK h1 h2 h3 (apart r ed hb) (by simpa using kb.length_eq) (fun i y e => kb.item i y (by simpa using e)) hg (fun c _ => Clear.nil c) hu hk q hz
theorem shows_tuple {a : Addr} {o : Obj} {n : Nat} {us : List Value} {ds : List PyData} (h1 : h.get? a = some o) (h2 : o.cls = .type "tuple") (h3 : o.data = .seq us.toArray n) (x : Tolds P w h us ds) (hz : (PyData.tuple ds).shown.length ≤ sizeLine) : ∃ T i, ShowsBy P w h a (.tuple ds) T i := by
  obtain ⟨⟨as, ra⟩, b, hb, kb⟩ := x
  have r : Reads h (.ref a) (.tuple ds) _ := .tuple h1 h2 h3 (by simpa using ra)
  have ed : (PyData.tuple ds).depth = PyData.depthAll ds + 1 := by rw [PyData.depth]
  have es : (PyData.tuple ds).shown = tupleText (PyData.shownAll ds) := by rw [PyData.shown]
  refine ⟨"tuple", "tuple.__repr__", F.slot_tuple_repr, F.slot_tuple_str, F.slot_tuple_format, fun s hk => ⟨o, hk _ _ h1, h2⟩, fun A E s Q hg hu hk q => ?_⟩
  rw [ed] at hu
  rw [es] at q hz
  exact call_tuple_reprK h1 h2 h3 (apart r ed hb) (by simpa using kb) hg (fun c _ => Clear.nil c) hu hk q hz
theorem shows_dict {a : Addr} {o : Obj} {n : Nat} {es : Array DictEntry} {ps : List (PyData × PyData)} (hs : (a == sysModules) = false) (h1 : h.get? a = some o) (h2 : o.cls = .type "dict") (h3 : o.data = .dict es n)
    (x : Tolds P w h (es.toList.map (·.key)) (ps.map (·.1))) (y : Tolds P w h (es.toList.map (·.val)) (ps.map (·.2))) (hz : (PyData.dict ps).shown.length ≤ sizeLine) : ∃ T i, ShowsBy P w h a (.dict ps) T i := by
  obtain ⟨⟨a1, r1⟩, b1, hb1, k1⟩ := x
  obtain ⟨⟨a2, r2⟩, b2, hb2, k2⟩ := y
  have r : Reads h (.ref a) (.dict ps) _ := .dict h1 h2 h3 r1 r2
  have ed : (PyData.dict ps).depth = PyData.depthKv ps + 1 := by rw [PyData.depth]
  have es : (PyData.dict ps).shown = dictText (PyData.shownKv ps) := by rw [PyData.shown]
  have hb : ReadAtMost h (PyData.depthKv ps) (b1 ++ b2) := (hb1.mono (PyData.depthAll_keys_le ps)).append (hb2.mono (PyData.depthAll_vals_le ps))
  refine ⟨"dict", "dict.__repr__", F.slot_dict_repr, F.slot_dict_str, F.slot_dict_format, fun s hk => ⟨o, hk _ _ h1, h2⟩, fun A E s Q hg hu hk q => ?_⟩
  rw [ed] at hu
  rw [es, PyData.shownKv_eq] at q hz
  exact call_dict_reprK h1 h2 h3 hs (apart r ed hb) (ReprEntriesK.of_two _ _ _ (k1.more_le (fun c hc => List.mem_append_left _ hc) (PyData.depthAll_keys_le ps)) (k2.more_le (fun c hc => List.mem_append_right _ hc) (PyData.depthAll_vals_le ps))) hg (fun c _ => Clear.nil c) hu hk q hz
end
/-! sizes of the parts -/
theorem lens_list {ds : List PyData} {m : Nat} (h : (PyData.list ds).shown.length ≤ m) : ∀ t ∈ PyData.shownAll ds, t.length ≤ m := fun t ht => by
  rw [PyData.shown] at h
  exact Nat.le_trans (listText_mem_le ht) h
theorem lens_tuple {ds : List PyData} {m : Nat} (h : (PyData.tuple ds).shown.length ≤ m) : ∀ t ∈ PyData.shownAll ds, t.length ≤ m := fun t ht => by
  rw [PyData.shown] at h
  exact Nat.le_trans (tupleText_mem_le ht) h
theorem lens_keys {ps : List (PyData × PyData)} {m : Nat} (h : (PyData.dict ps).shown.length ≤ m) : ∀ t ∈ PyData.shownAll (ps.map (·.1)), t.length ≤ m := fun t ht => by
  rw [PyData.shown] at h
  obtain ⟨p, hp, hl⟩ := PyData.shownKv_key_le ps t ht
  exact Nat.le_trans hl (Nat.le_trans (dictText_mem_le hp) h)
theorem lens_vals {ps : List (PyData × PyData)} {m : Nat} (h : (PyData.dict ps).shown.length ≤ m) : ∀ t ∈ PyData.shownAll (ps.map (·.2)), t.length ≤ m := fun t ht => by
  rw [PyData.shown] at h
  obtain ⟨p, hp, hl⟩ := PyData.shownKv_val_le ps t ht
  exact Nat.le_trans hl (Nat.le_trans (dictText_mem_le hp) h)
section
variable {X : Cx} {pins : List (Addr × Obj)} {σ : L2.St} {H : Hp} {s : Shared}
theorem Tolds.keys : ∀ {es : List DictEntry} {vs : List (L2.Key × Value)} {dks : List (L2.Key × D)}, Pairs (mixKind X.prog X.w) es vs → vs.map (·.1) = dks.map (·.1) → PyData.showableAll ((toPyK dks).map (·.1)) = true → (∀ t ∈ PyData.shownAll ((toPyK dks).map (·.1)), t.length ≤ sizeLine) →
    Tolds X.prog X.w s.heap (es.map (·.key)) ((toPyK dks).map (·.1))
  | _, _, [], .nil, _, _, _ => by rw [toPyK]; exact .nil
  | _, _, (k, d) :: dks, .nil, e, _, _ => by simp at e
  | _, _, [], .cons _ _ _, e, _, _ => by simp at e
  | _, _, (k, d) :: dks, .cons (kv := kv) hk _ r, e, hs, hz => by
    rw [toPyK, List.map_cons] at *
    simp only [List.map_cons, List.cons.injEq] at e
    rw [PyData.showableAll, Bool.and_eq_true] at hs
    rw [PyData.shownAll] at hz
    refine .cons ?_ (Tolds.keys r e.2 hs.2 fun t ht => hz t (List.mem_cons_of_mem _ ht))
    have hz0 := hz _ (List.mem_cons_self ..)
    rcases keyIs_shape hk with ⟨i, t, e1, e2⟩ | ⟨x, t, e1, e2⟩
    · rw [e2]
      have ek : k = Sum.inl i := by rw [← e.1, e1]
      rw [ek] at hs ⊢
      exact .of_is (.int i t) (ReprIs.int t (by simpa [keyPy, PyData.showable] using hs.1))
    · rw [e2]
      have ek : k = Sum.inr x := by rw [← e.1, e1]
      rw [ek] at hz0 ⊢
      exact .of_is (.str x t) (ReprIs.str x t (by simpa only [keyPy, PyData.shown] using hz0))
theorem kv_fst : ∀ {kvs : List (L2.Key × V)} {vs : List (L2.Key × Value)}, KV kvs vs → kvs.map (·.1) = vs.map (·.1)
  | _, _, h => by
    induction h with
    | nil => rfl
    | cons hx _ ih => rw [List.map_cons, List.map_cons, ih, hx.1]
theorem kv_snd {kvs : List (L2.Key × V)} {vs : List (L2.Key × Value)} (h : KV kvs vs) : Vals (kvs.map (·.2)) (vs.map (·.2)) := by
  induction h with
  | nil => exact .nil
  | cons hx _ ih => exact .cons hx.2 ih
theorem pairs_val : ∀ {es : List DictEntry} {vs : List (L2.Key × Value)}, Pairs (mixKind X.prog X.w) es vs → es.map (·.val) = vs.map (·.2)
  | _, _, .nil => rfl
  | _, _, .cons _ e r => by rw [List.map_cons, List.map_cons, e, pairs_val r]
theorem repK_fst : ∀ {kvs : List (L2.Key × V)} {dks : List (L2.Key × D)}, RepK X.K H kvs dks → kvs.map (·.1) = dks.map (·.1)
  | _, _, .nil => rfl
  | _, _, .cons _ r => by rw [List.map_cons, List.map_cons, repK_fst r]
theorem dict_parts (I : Inv X pins σ H s) {a : Addr} {kvs : List (L2.Key × V)} {dks : List (L2.Key × D)} (e : Rd H a (.dK kvs)) (r : RepK X.K H kvs dks) (hs : PyData.showableKv (toPyK dks) = true) (hz : (PyData.dict (toPyK dks)).shown.length ≤ sizeLine)
    (h : ∀ us, Vals (kvs.map (·.2)) us → Tolds X.prog X.w s.heap us ((toPyK dks).map (·.2))) : ∃ o es ep, (a == sysModules) = false ∧ s.heap.get? a = some o ∧ o.cls = .type "dict" ∧ o.data = .dict es ep ∧
      Tolds X.prog X.w s.heap (es.toList.map (·.key)) ((toPyK dks).map (·.1)) ∧ Tolds X.prog X.w s.heap (es.toList.map (·.val)) ((toPyK dks).map (·.2)) := by
  obtain ⟨_, hsys, vs, hkv, o, es, ep, ho, hod, hdat, _, hes, _⟩ := dk_rd I.hok e
  obtain ⟨hs1, _⟩ := PyData.showableKv_split _ hs
  refine ⟨o, es, ep, hsys, ho, hod.1, hdat, .keys hes (by rw [← kv_fst hkv, repK_fst r]) hs1 (lens_keys hz), ?_⟩
  rw [pairs_val hes]
  exact h _ (kv_snd hkv)
theorem told_dict (I : Inv X pins σ H s) {a : Addr} {kvs : List (L2.Key × V)} {dks : List (L2.Key × D)} (e : Rd H a (.dK kvs)) (r : RepK X.K H kvs dks) (hs : PyData.showableKv (toPyK dks) = true) (hz : (PyData.dict (toPyK dks)).shown.length ≤ sizeLine)
    (h : ∀ us, Vals (kvs.map (·.2)) us → Tolds X.prog X.w s.heap us ((toPyK dks).map (·.2))) : Told X.prog X.w s.heap (.ref a) (.dict (toPyK dks)) := by
  obtain ⟨o, es, ep, a1, a2, a3, a4, a5, a6⟩ := dict_parts I e r hs hz h
  exact .dict a1 a2 a3 a4 a5 a6
mutual
theorem Rep.told (I : Inv X pins σ H s) : ∀ {v : V} {d : D}, Rep X.K H v d → plainZ d = true → ∀ u, RelV v u → (toPy d).showable = true → (toPy d).shown.length ≤ sizeLine → Told X.prog X.w s.heap u (toPy d)
  | _, _, .non, _, _, r, _, _ => by cases r; rw [toPy]; exact .of_is .none ReprIs.none
  | _, _, .bl b, _, _, r, _, _ => by cases r; rw [toPy]; exact .of_is (.bool b) (ReprIs.bool b)
  | _, _, .int i, _, _, r, hs, _ => by
    obtain ⟨t, rfl⟩ := r
    rw [toPy] at *
    exact .of_is (.int i t) (ReprIs.int t (by simpa [PyData.showable] using hs))
  | _, _, .str x, _, _, r, _, hz => by
    obtain ⟨t, rfl⟩ := r
    rw [toPy] at *
    exact .of_is (.str x t) (ReprIs.str x t (by simpa only [PyData.shown] using hz))
  | _, _, .lst h q, e, _, r, hs, hz => by
    cases r
    rw [plainZ] at e
    rw [toPy] at *
    rw [PyData.showable] at hs
    obtain ⟨its, rv, ⟨o, n, ho, hc, _, hd⟩, _⟩ := I.list (SqL.of h)
    exact .list ho hc hd (Reps.tolds I q e its rv hs (lens_list hz))
  | _, _, .scr h q, e, _, r, hs, hz => by
    cases r
    rw [plainZ] at e
    rw [toPy] at *
    rw [PyData.showable] at hs
    obtain ⟨its, rv, ⟨o, n, ho, hc, _, hd⟩, _⟩ := I.list h
    exact .list ho hc hd (Reps.tolds I q e its rv hs (lens_list hz))
  | _, _, .tup h q, e, _, r, hs, hz => by
    cases r
    rw [plainZ] at e
    rw [toPy] at *
    rw [PyData.showable] at hs
    obtain ⟨its, rv, ⟨o, ho, hc, n, hd⟩, _⟩ := I.tuple (SqT.of h)
    exact .tuple ho hc hd (Reps.tolds I q e its rv hs (lens_tuple hz))
  | _, _, .dic h q, e, _, r, hs, hz => by
    cases r
    rw [plainZ] at e
    rw [toPy] at *
    rw [PyData.showable] at hs
    exact told_dict I (.inl h) q hs hz fun us hu => RepK.tolds I q e us hu (PyData.showableKv_split _ hs).2 (lens_vals hz)
  | _, _, .dkl h q, e, _, r, hs, hz => by
    cases r
    rw [plainZ] at e
    rw [toPy] at *
    rw [PyData.showable] at hs
    exact told_dict I (.inr ⟨_, h⟩) q hs hz fun us hu => RepK.tolds I q e us hu (PyData.showableKv_split _ hs).2 (lens_vals hz)
  | _, _, .dit _ _, e, _, _, _, _ => by rw [plainZ] at e; cases e
  | _, _, .dtl _ _, e, _, _, _, _ => by rw [plainZ] at e; cases e
  | _, _, .pnK _, e, _, _, _, _ => by rw [plainZ] at e; cases e
  | _, _, .pnT _, e, _, _, _, _ => by rw [plainZ] at e; cases e
  | _, _, .obj _ _ _, e, _, _, _, _ => by rw [plainZ] at e; cases e
  | _, _, .cls _, e, _, _, _, _ => by rw [plainZ] at e; cases e
  | _, _, .xcl _, e, _, _, _, _ => by rw [plainZ] at e; cases e
theorem Reps.tolds (I : Inv X pins σ H s) : ∀ {v : List V} {d : List D}, Reps X.K H v d → plainZs d = true → ∀ us, Vals v us → PyData.showableAll (toPys d) = true → (∀ t ∈ PyData.shownAll (toPys d), t.length ≤ sizeLine) → Tolds X.prog X.w s.heap us (toPys d)
  | _, _, .nil, _, _, r, _, _ => by cases r; rw [toPys]; exact .nil
  | _, _, .cons h q, e, us, r, hs, hz => by
    cases us with
    | nil => cases r
    | cons u us =>
      obtain ⟨r1, r2⟩ : RelV _ u ∧ Vals _ us := by cases r with | cons a b => exact ⟨a, b⟩
      rw [plainZs, Bool.and_eq_true] at e
      rw [toPys] at *
      rw [PyData.showableAll, Bool.and_eq_true] at hs
      rw [PyData.shownAll] at hz
      exact .cons (Rep.told I h e.1 u r1 hs.1 (hz _ (List.mem_cons_self ..))) (Reps.tolds I q e.2 us r2 hs.2 fun t ht => hz t (List.mem_cons_of_mem _ ht))
theorem RepK.tolds (I : Inv X pins σ H s) : ∀ {v : List (L2.Key × V)} {d : List (L2.Key × D)}, RepK X.K H v d → plainZk d = true → ∀ us, Vals (v.map (·.2)) us → PyData.showableAll ((toPyK d).map (·.2)) = true → (∀ t ∈ PyData.shownAll ((toPyK d).map (·.2)), t.length ≤ sizeLine) → Tolds X.prog X.w s.heap us ((toPyK d).map (·.2))
  | _, _, .nil, _, _, r, _, _ => by cases r; rw [toPyK]; exact .nil
  | _, _, .cons h q, e, us, r, hs, hz => by
    cases us with
    | nil => cases r
    | cons u us =>
      rw [List.map_cons] at r
      obtain ⟨r1, r2⟩ : RelV _ u ∧ Vals _ us := by cases r with | cons a b => exact ⟨a, b⟩
      rw [plainZk, Bool.and_eq_true] at e
      rw [toPyK, List.map_cons] at *
      rw [PyData.showableAll, Bool.and_eq_true] at hs
      rw [PyData.shownAll] at hz
      exact .cons (Rep.told I h e.1 u r1 hs.1 (hz _ (List.mem_cons_self ..))) (RepK.tolds I q e.2 us r2 hs.2 fun t ht => hz t (List.mem_cons_of_mem _ ht))
end
/-- what repr asks of data -/
def okZ (d : D) : Bool := plainZ d && ((toPy d).showable && decide ((toPy d).depth ≤ 50) && decide ((toPy d).shown.length ≤ 1000000))
theorem call_reprZ {v : V} {d : D} {u : Value} {Q E : Value → Shared → Prop} (I : Inv X pins σ H s) (hg : X.A.guards = some []) (hu : X.A.units + 100 < cLine) (h : Rep X.K H v d) (r : RelV v u) (ho : okZ d = true)
    (q : ∀ h' t tk, (∀ b o, s.heap.get? b = some o → h'.get? b = some o) → Q (.str (toPy d).shown t) { s with heap := h', toks := tk }) : wpAny (model X.prog X.w) X.A (call (.builtin "repr") [u]) Q E s := by
  have big : (1000000 : Nat) ≤ sizeLine := by decide
  unfold okZ at ho
  simp only [Bool.and_eq_true, decide_eq_true_eq] at ho
  obtain ⟨h1, ⟨h2, h3⟩, h4⟩ := ho
  have hz := Nat.le_trans h4 big
  have hc : X.A.units + ((toPy d).depth + 1) < cLine := by omega
  have done : ∀ a, u = .ref a → (∃ T i, ShowsBy X.prog X.w s.heap a (toPy d) T i) → wpAny (model X.prog X.w) X.A (call (.builtin "repr") [u]) Q E s := by
    rintro a rfl ⟨T, i, S⟩
    exact call_repr_slot (by omega) (S.typeIs s fun _ _ e => e) S.slotRepr (S.call X.A.in1 E s _ hg (by show X.A.units + 1 + _ < cLine; omega) (fun _ _ e => e) fun h' t tk hk => ⟨_, _, rfl, q h' t tk hk⟩)
  cases h with
  | non => cases r; exact PySem.P.repr_of_none (q s.heap _ _ fun _ _ e => e)
  | bl b => cases r; exact PySem.P.repr_of_bool (by rw [toPy, PyData.shown] at q; exact q s.heap _ _ fun _ _ e => e)
  | int i =>
    obtain ⟨t, rfl⟩ := r
    rw [toPy] at h2 q
    exact PySem.P.repr_of_int (of_decide_eq_true h2) (q s.heap _ _ fun _ _ e => e)
  | str z =>
    obtain ⟨t, rfl⟩ := r
    rw [toPy] at hz q
    exact PySem.P.repr_of_str (q s.heap _ _ fun _ _ e => e) hz
  | lst h rr =>
    cases r
    rw [plainZ] at h1
    rw [toPy] at *
    rw [PyData.showable] at h2
    obtain ⟨its, rv, ⟨o, n, ho, hcl, _, hd⟩, _⟩ := I.list (SqL.of h)
    exact done _ rfl (shows_list ho hcl hd (Reps.tolds I rr h1 its rv h2 (lens_list hz)) hz)
  | scr h rr =>
    cases r
    rw [plainZ] at h1
    rw [toPy] at *
    rw [PyData.showable] at h2
    obtain ⟨its, rv, ⟨o, n, ho, hcl, _, hd⟩, _⟩ := I.list h
    exact done _ rfl (shows_list ho hcl hd (Reps.tolds I rr h1 its rv h2 (lens_list hz)) hz)
  | tup h rr =>
    cases r
    rw [plainZ] at h1
    rw [toPy] at *
    rw [PyData.showable] at h2
    obtain ⟨its, rv, ⟨o, ho, hcl, n, hd⟩, _⟩ := I.tuple (SqT.of h)
    exact done _ rfl (shows_tuple ho hcl hd (Reps.tolds I rr h1 its rv h2 (lens_tuple hz)) hz)
  | dic h rr =>
    cases r
    rw [plainZ] at h1
    rw [toPy] at *
    rw [PyData.showable] at h2
    obtain ⟨o, es, ep, a1, a2, a3, a4, a5, a6⟩ := dict_parts I (.inl h) rr h2 hz fun us hv => RepK.tolds I rr h1 us hv (PyData.showableKv_split _ h2).2 (lens_vals hz)
    exact done _ rfl (shows_dict a1 a2 a3 a4 a5 a6 hz)
  | dkl h rr =>
    cases r
    rw [plainZ] at h1
    rw [toPy] at *
    rw [PyData.showable] at h2
    obtain ⟨o, es, ep, a1, a2, a3, a4, a5, a6⟩ := dict_parts I (.inr ⟨_, h⟩) rr h2 hz fun us hv => RepK.tolds I rr h1 us hv (PyData.showableKv_split _ h2).2 (lens_vals hz)
    exact done _ rfl (shows_dict a1 a2 a3 a4 a5 a6 hz)
  | dit h rr => rw [plainZ] at h1; cases h1
  | dtl h rr => rw [plainZ] at h1; cases h1
  | pnK h => rw [plainZ] at h1; cases h1
  | pnT h => rw [plainZ] at h1; cases h1
  | obj h _ _ => rw [plainZ] at h1; cases h1
  | cls => rw [plainZ] at h1; cases h1
  | xcl => rw [plainZ] at h1; cases h1
end
end DL
/-! the data layer, part 13: isinstance, repr, in, enumerate, zip -/
namespace DL
open PySem PySem.Spec PyProof.Rows L2
/-! ### isinstance of a built-in class -/
/-- the datum's type by name; an object has none here -/
def tyN : D → Option String
  | .non => some "NoneType"
  | .bl _ => some "bool"
  | .int _ => some "int"
  | .str _ => some "str"
  | .lst _ => some "list"
  | .scr _ => some "list"
  | .tup _ => some "tuple"
  | .dic _ => some "dict"
  | .dit _ => some "dict"
  | .dkl _ => some "dict"
  | .dtl _ => none
  | .pnK _ _ => none
  | .pnT _ _ => none
  | .obj _ _ _ => none
  | .cls _ => none
  | .xcl _ _ => none
  | .sto _ => none
def isTy (T : String) (d : D) : Bool := match tyN d with
  | some t => t == T || (t == "bool" && T == "int")
  | none => false
def tyNames : List String := ["NoneType", "bool", "int", "str", "list", "tuple", "dict"]
theorem kit_names : (tyNames.all fun t => (["bool", "int", "str", "list", "tuple", "dict"] : List String).all fun T => kitB t T == some (t == T || (t == "bool" && T == "int"))) = true := by decide +kernel
theorem kit_name {t T : String} (h1 : t ∈ tyNames) (h2 : T ∈ (["bool", "int", "str", "list", "tuple", "dict"] : List String)) : kitB t T = some (t == T || (t == "bool" && T == "int")) :=
  eq_of_beq (List.all_eq_true.mp (List.all_eq_true.mp kit_names t h1) T h2)
theorem tyx_of {K : Fg} {O : List Addr} {H : Hp} {v : V} {d : D} {t : String} (h : B2 K O H v d) (e : tyN d = some t) : TyX K H v (.type t) ∧ t ∈ tyNames := by
  cases d with
  | non => obtain rfl := h.non; cases e; exact ⟨.base .non, by simp [tyNames]⟩
  | bl b => obtain rfl := h.bl; cases e; exact ⟨.base (.bl b), by simp [tyNames]⟩
  | int b => obtain rfl := h.int; cases e; exact ⟨.base (.int b), by simp [tyNames]⟩
  | str b => obtain rfl := h.str; cases e; exact ⟨.base (.str b), by simp [tyNames]⟩
  | lst ds => obtain ⟨a, vs, rfl, e1, _⟩ := h.lst; cases e; exact ⟨.base (.lst e1), by simp [tyNames]⟩
  | scr ds =>
    obtain ⟨a, vs, rfl, e1, _⟩ := h.scr
    cases e
    refine ⟨?_, by simp [tyNames]⟩
    rcases e1 with (e1 | ⟨o, e1⟩) | ⟨o, its, n, e1, e2, _⟩
    · exact .base (.lst e1)
    · exact .base (.frz e1)
    · exact .kList e1 e2
  | tup ds => obtain ⟨a, vs, rfl, e1, _⟩ := h.tup; cases e; exact ⟨.base (.tup e1), by simp [tyNames]⟩
  | dic ds => obtain ⟨a, vs, rfl, e1, _⟩ := h.dic; cases e; exact ⟨.base (.dK e1), by simp [tyNames]⟩
  | dit ds => obtain ⟨a, vs, rfl, e1, _⟩ := h.dit; cases e; exact ⟨.base (.dT e1), by simp [tyNames]⟩
  | dkl ds =>
    cases e
    rcases h with h | ⟨l, o, rfl, _, h⟩
    · cases h with | dkl h r => exact ⟨.fDict (hide_same _ _ h), by simp [tyNames]⟩
    · cases h
  | dtl ds => cases e
  | pnK _ _ => cases e
  | pnT _ _ => cases e
  | obj c ns ds => cases e
  | cls c => cases e
  | xcl c n => cases e
  | sto S => cases e
def mIsi (T : String) (ma : DTE) : DTE := fun Γ Q => ma Γ fun r Γ1 => ∃ d, rd Γ1 r = some d ∧ (tyN d).isSome = true ∧ Q (.val (.bl (isTy T d))) Γ1
section
variable {X : Cx} {C : Ctx} {ta tb : TE} {ma mb : DTE} {a b e : Expr} {pos p p2 : Pos}
theorem sim_isi {T : String} (h2 : T ∈ (["bool", "int", "str", "list", "tuple", "dict"] : List String)) (ha : SimE C ta ma) : SimE C (tCB (rIsi C.K) (tCons ta (tCons (tC (.ty T)) tNil))) (mIsi T ma) := fun Γ O σ H Qd Q R h k => by
  refine ha Γ O σ H _ _ R h fun ra Γ1 x H1 R1 e1 q1 => ?_
  obtain ⟨d, hd, ht, q⟩ := q1
  obtain ⟨t, ht⟩ := Option.isSome_iff_exists.mp ht
  obtain ⟨ty, hm⟩ := tyx_of (R1.pend.b2 R1.rel hd) ht
  refine ⟨x, .ty T, .type t, .type T, isTy T d, rfl, .ty T, ty, ?_, k (.val (.bl (isTy T d))) Γ1 _ H1 ⟨R1.rel, .bl _⟩ (.val e1.1) q⟩
  unfold isTy
  rw [ht]
  exact kit_ty (kit_name hm h2)
theorem de_isi {T : String} {x : Str} (h2 : T ∈ (["bool", "int", "str", "list", "tuple", "dict"] : List String)) (hg : Gl X "isinstance") (hm : X.mg "isinstance" = none) (ha : DE X C a ta ma) (hT : PE X (.Name x p2) (tC (.ty T)))
    (he : starEach [a, .Name x p2] X.env = (false, eval a X.env) :: starEach [.Name x p2] X.env := by rfl) (he2 : starEach [.Name x p2] X.env = (false, eval (.Name x p2) X.env) :: starEach [] X.env := by rfl) (hpl : (backTo pos (starEach [.Name x p2] X.env)).any (·.1) = false := by rfl) {K0 : Fg} (hK0 : X.K = K0 := by rfl) (hK : K0 = C.K := by rfl) :
    DE X C (.Call (.Name "isinstance" p) [a, .Name x p2] [] pos) (tCB (rIsi K0) (tCons ta (tCons (tC (.ty T)) tNil))) (mIsi T ma) := by
  subst hK0
  exact (⟨pe_callB call_isi hg hm (by decide +kernel) (pa_cons ha.pe (pa_cons hT pa_nil he2) he) (he := he) (hpl := hpl), by rw [hK]; exact sim_isi h2 ha.sim⟩)
/-! ### repr -/
def okR (d : D) : Bool := plain d && ((toPy d).showable && decide ((toPy d).depth ≤ 50) && decide ((toPy d).shown.length ≤ 1000000) && !(toPy d).hasDict)
def reprD : List D → (Res → Prop) → Prop
  | [d], Q => (d = .dic [] ∨ okR d = true ∨ okZ d = true) ∧ Q (.val (.str (toPy d).shown))
  | _, _ => False
def rRepr (K : Fg) : List V → Hp → VK → Prop := fun xs H Q => (∃ x d, xs = [x] ∧ Dp K H x d ∧ (d.showable = true ∧ d.depth ≤ 50 ∧ d.shown.length ≤ 1000000 ∧ d.hasDict = false) ∧ Q (.str d.shown) H) ∨ (∃ a, xs = [.ref a] ∧ H a = some (.dK []) ∧ Q (.str (PyData.dict []).shown) H) ∨ ∃ x d, xs = [x] ∧ Rep K H x d ∧ okZ d = true ∧ Q (.str (toPy d).shown) H
theorem call_repr (hg : X.A.guards = some []) (hu : X.A.units + 100 < cLine) : CallR X (.builtin "repr") (rRepr X.K) := by
  intro pins s σ H xs us Q I r h
  have big : (1000000 : Nat) ≤ sizeLine := by decide
  rcases h with h | ⟨a, rfl, ha, q⟩ | ⟨x, d, rfl, hd, ho, q⟩
  rotate_left
  · obtain ⟨u, rfl, rx⟩ := vals1 r
    cases rx
    obtain ⟨_, hsys, vs, hkv, o, es, ep, ho, hod, hdat, _, hes, _⟩ := I.hok a _ ha
    cases hkv
    have hes0 : es.toList = [] := by
      generalize es.toList = l at hes
      cases l with
      | nil => rfl
      | cons x y => first | exact hes.elim | cases hes | (simp [Pairs] at hes)
    have hr : Reads s.heap (.ref a) (.dict []) (a :: [] ++ []) := .dict ho hod.1 hdat (by rw [hes0]; exact .nil) (by rw [hes0]; exact .nil)
    refine repr_of_reads' hr (by decide +kernel) (fun _ hm => ?_) hg (by simp only [PyData.depth, PyData.depthKv]; omega) (fun _ _ e => e) (fun h' u tk kk => ⟨.str _, H, I.kept kk, ⟨_, rfl⟩, q⟩) (Nat.le_trans (by decide +kernel) big)
    have hm : sysModules = a := by simpa using hm
    rw [hm] at hsys
    simp at hsys
  · obtain ⟨u, rfl, rx⟩ := vals1 r
    exact call_reprZ I hg hu hd rx ho fun h' t tk kk => ⟨.str _, H, I.kept kk, ⟨_, rfl⟩, q⟩
  obtain ⟨x, d, rfl, hd, ⟨h1, h2, h3, h4⟩, q⟩ := h
  obtain ⟨u, rfl, rx⟩ := vals1 r
  cases hd with
  | non => cases rx; exact PySem.P.repr_of_none ⟨.str _, H, I.tok _, ⟨_, rfl⟩, q⟩
  | bl b => cases rx; exact PySem.P.repr_of_bool ⟨.str _, H, I.tok _, ⟨_, rfl⟩, q⟩
  | int i =>
    obtain ⟨t, rfl⟩ := rx
    exact PySem.P.repr_of_int (of_decide_eq_true h1) ⟨.str _, H, I.tok _, ⟨_, rfl⟩, q⟩
  | str z =>
    obtain ⟨t, rfl⟩ := rx
    exact PySem.P.repr_of_str ⟨.str _, H, I.tok _, ⟨_, rfl⟩, q⟩ (Nat.le_trans h3 big)
  | lst hs ha =>
    obtain ⟨as, hr⟩ := Dp.reads I _ _ u (.lst hs ha) rx
    cases rx
    exact repr_of_reads' hr h1 (fun z => by rw [h4] at z; cases z) hg (by omega) (fun _ _ e => e) (fun h' u tk kk => ⟨.str _, H, I.kept kk, ⟨_, rfl⟩, q⟩) (Nat.le_trans h3 big)
  | tup hs ha =>
    obtain ⟨as, hr⟩ := Dp.reads I _ _ u (.tup hs ha) rx
    cases rx
    exact repr_of_reads' hr h1 (fun z => by rw [h4] at z; cases z) hg (by omega) (fun _ _ e => e) (fun h' u tk kk => ⟨.str _, H, I.kept kk, ⟨_, rfl⟩, q⟩) (Nat.le_trans h3 big)
theorem B2.repH {K : Fg} {O : List Addr} {H : Hp} {v : V} {d : D} (h : B2 K O H v d) : Rep K H v d := by
  rcases h with h | ⟨l, o, rfl, h1, h⟩
  · exact h.mono hide_same
  · exact (h.mono hide_same).rep h1
theorem sim_repr {K : Fg} : SimRC K (rRepr K) reprD := fun O H vs ds Qd Q h q k => by
  unfold reprD at q
  split at q
  · rename_i d
    obtain ⟨v, rfl, hb⟩ := h.one
    obtain ⟨ho, q⟩ := q
    rcases ho with rfl | ho | ho
    rotate_right
    · exact .inr (.inr ⟨v, d, rfl, hb.repH, ho, k.val _ _ (.str _) q⟩)
    · obtain ⟨a, vs, rfl, e, r⟩ := hb.dic
      cases r
      exact .inr (.inl ⟨a, rfl, e, k.val _ _ (.str _) q⟩)
    unfold okR at ho
    simp only [Bool.and_eq_true, decide_eq_true_eq, Bool.not_eq_true'] at ho
    exact .inl ⟨v, toPy d, rfl, hb.dp ho.1, ⟨ho.2.1.1.1, ho.2.1.1.2, ho.2.1.2, ho.2.2⟩, k.val _ _ (.str _) q⟩
  · exact q.elim
theorem de_repr {tr : TA} {mr : DTA} (hgu : X.A.guards = some []) (hu : X.A.units + 100 < cLine) (hg : Gl X "repr") (hm : X.mg "repr" = none) (ha : DA X C [e] tr mr) {K0 : Fg} (hK0 : X.K = K0 := by rfl) (hK : K0 = C.K := by rfl) (he : starEach [e] X.env = (false, eval e X.env) :: starEach [] X.env := by rfl) :
    DE X C (.Call (.Name "repr" p) [e] [] pos) (tCB (rRepr K0) tr) (mCB reprD mr) := by
  subst hK0
  exact (de_cb (call_repr hgu hu) (by rw [hK]; exact sim_repr) hg hm (by decide +kernel) ha (he := he) (hpl := rfl))
/-! ### in, not in -/
def inD : D → D → (Res → Prop) → Prop
  | x, .lst ds, Q => okE x = true ∧ okE (.lst ds) = true ∧ Q (.val (.bl (ds.any fun z => eqv z x)))
  | x, .tup ds, Q => ∃ i ns, x = .int i ∧ ints? ds = some ns ∧ Q (.val (.bl (decide (i ∈ ns))))
  | .str c, .str z, Q => ∃ k, c = ⟨#[k]⟩ ∧ Q (.val (.bl (decide (k ∈ z.cps.toList))))
  | _, _, _ => False
end
/-! ### enumerate, zip -/
def enumD : Nat → List D → List D
  | _, [] => []
  | k, d :: ds => .tup [.int k, d] :: enumD (k + 1) ds
/-! ### enumerate(tuple) -/
def mEnum (ma : DTE) : DTI := fun Γ Q => ma Γ fun r Γ1 => ∃ d ds, rd Γ1 r = some d ∧ itemsOf d = some ds ∧ Q (srcOf d r) (enumD 0 ds) Γ1
end DL
/-! the data layer, part 14: short words for the printed derivations -/
namespace DL
open PySem PySem.Spec PyProof.Rows L2
theorem room100 {k : Nat} {A : Around} (r : Room k A) : A.units + 100 < cLine := by have := r.un; omega
structure DF (X : Cx) (C : Ctx) (ifs : List Expr) (t : TT) (m : DTT) : Prop where
  pts : PTs X ifs t
  sim : SimT C t m
section
variable {X : Cx} {C : Ctx} {elt tg iter c : Expr} {pos : Pos} {wi : TI} {g : TG} {tt : TT} {te : TE} {mi : DTI} {mg : DTG} {mt : DTT} {me : DTE} {ifs : List Expr} {scope : Scope} {own : List (Str × Nat)}
theorem df_nil : DF X C [] tYes mYes := ⟨pts_nil, sim_yes⟩
theorem df_one {t : TT} {m : DTT} (h : DT X C c t m) : DF X C [c] t m := ⟨pts_one h.pt, h.sim⟩
/-- the parts of a comprehension -/
structure DL1 (X : Cx) (C : Ctx) (elt tg iter : Expr) (ifs : List Expr) (scope : Scope) (own : List (Str × Nat)) (wi : TI) (g : TG) (tt : TT) (te : TE) (mi : DTI) (mg : DTG) (mt : DTT) (me : DTE) : Prop where
  calm : X.calm = true
  nd : X.N.Nodup
  hi : DI X C tg iter wi mi
  ok : BlkOk X.N X.env.scope scope own
  hg : ∀ (U : List (Addr × HO)) (s : Shared) (H : Hp) (A : Addr) (cl : List (Str × Addr)) (fp : List Addr), DG (X.blk s H scope (compEnvC scope cl A X.env) fp) { C with U := U } tg g mg
  hgo : OwnG g (own.map (·.2))
  hgm : ∀ (v : V) (σ : L2.St) (H : Hp) (Q Q' : L2.St → Hp → Prop), (∀ σ H, Q σ H → Q' σ H) → g v σ H Q → g v σ H Q'
  ht : ∀ (U : List (Addr × HO)) (s : Shared) (H : Hp) (A : Addr) (cl : List (Str × Addr)) (fp : List Addr), DF (X.blk s H scope (compEnvC scope cl A X.env) fp) { C with U := U } ifs tt mt
  he : ∀ (U : List (Addr × HO)) (s : Shared) (H : Hp) (A : Addr) (cl : List (Str × Addr)) (fp : List Addr), DE (X.blk s H scope (compEnvC scope cl A X.env) fp) { C with U := U } elt te me
theorem DL1.sim (h : DL1 X C elt tg iter ifs scope own wi g tt te mi mg mt me) (s : Shared) : SimE C (tLc wi g tt te (own.map (·.2))) (mComp mi mg mt me (own.map (·.2))) :=
  sim_comp h.hi.sim (fun U => (h.hg U s (fun _ => none) 0 [] []).sim) h.hgo (fun U => (h.ht U s (fun _ => none) 0 [] []).sim) (fun U => (h.he U s (fun _ => none) 0 [] []).sim) h.hgm
theorem de_comp (h : DL1 X C elt tg iter ifs scope own wi g tt te mi mg mt me) (hs : ∀ x, foldedSetIterable iter X.env x = pure x := by intro _; rfl) :
    DE X C (.ListComp elt [⟨tg, iter, ifs, 0⟩] scope pos) (tLc wi g tt te (own.map (·.2))) (mComp mi mg mt me (own.map (·.2))) :=
  ⟨pe_lc h.calm h.nd h.hi.pi h.ok (fun s H A cl fp => (h.hg C.U s H A cl fp).pg) (fun s H A cl fp => (h.ht C.U s H A cl fp).pts) (fun s H A cl fp => (h.he C.U s H A cl fp).pe) hs, h.sim X.s_0⟩
theorem ps_comp {i : Nat} {y : Str} {py : Pos} {spos : Pos} (h : DL1 X C elt tg iter ifs scope own wi g tt te mi mg mt me) (hy : X.N[i]? = some y) (hyl : X.env.scope.names.lookup y = some .local)
    (hsw : swapsWith (.ListComp elt [⟨tg, iter, ifs, 0⟩] scope pos) (some (.Name y py)) spos.line X.env = pure true) (hs : ∀ x, foldedSetIterable iter X.env x = pure x := by intro _; rfl) :
    PS X (.Assign [.Name y py] (.ListComp elt [⟨tg, iter, ifs, 0⟩] scope pos) spos) (tAsg (tLc wi g tt te (own.map (·.2))) (gName i)) :=
  ps_setLc h.calm h.nd hy hyl hsw h.hi.pi h.ok (fun s H A cl fp => (h.hg C.U s H A cl fp).pg) (fun s H A cl fp => (h.ht C.U s H A cl fp).pts) (fun s H A cl fp => (h.he C.U s H A cl fp).pe) hs
theorem ds_setCO {i : Nat} {y : Str} {py : Pos} {spos : Pos} (h : DL1 X C elt tg iter ifs scope own wi g tt te mi mg mt me) (hy : X.N[i]? = some y) (hyl : X.env.scope.names.lookup y = some .local)
    (hsw : swapsWith (.ListComp elt [⟨tg, iter, ifs, 0⟩] scope pos) (some (.Name y py)) spos.line X.env = pure true) (hs : ∀ x, foldedSetIterable iter X.env x = pure x := by intro _; rfl) :
    DS X C (.Assign [.Name y py] (.ListComp elt [⟨tg, iter, ifs, 0⟩] scope pos) spos) (tAsg (tLc wi g tt te (own.map (·.2))) (gName i)) (mSetO i (mComp mi mg mt me (own.map (·.2)))) := ds_setSO (ps_comp h hy hyl hsw hs) (h.sim X.s_0)
end
/-! comparisons in a chain -/
section
variable {X : Cx} {C : Ctx} {ta tb tc : TE} {ma mb mc : DTE} {a b c : Expr} {pos : Pos}
def mChain (f f' : Int → Int → Bool) (ma mb mc : DTE) : DTE := fun Γ Q => ma Γ fun ra Γ1 => mb Γ1 fun rb Γ2 => ∃ i j, ra = .val (.int i) ∧ rb = .val (.int j) ∧
  if f i j = true then mc Γ2 fun rc Γ3 => ∃ k, rc = .val (.int k) ∧ Q (.val (.bl (f' j k))) Γ3 else Q (.val (.bl false)) Γ2
theorem sim_chain {f f' : Int → Int → Bool} (ha : SimE C ta ma) (hb : SimE C tb mb) (hc : SimE C tc mc) : SimE C (tChain (rI0 fun i j => .bl (f i j)) (rI0 fun i j => .bl (f' i j)) ta tb tc) (mChain f f' ma mb mc) := fun Γ O σ H Qd Q R h k => by
  refine ha Γ O σ H _ _ R h fun ra Γ1 x H1 R1 e1 q1 => ?_
  refine hb Γ1 O σ H1 _ _ R1.rel q1 fun rb Γ2 y H2 R2 e2 q2 => ?_
  obtain ⟨i, j, rfl, rfl, q⟩ := q2
  obtain rfl := (show B2 C.K O H1 x (.int i) from .inl R1.2).int
  obtain rfl := (show B2 C.K O H2 y (.int j) from .inl R2.2).int
  refine ⟨i, j, rfl, rfl, f i j, rfl, ?_⟩
  cases hf : f i j with
  | true =>
    rw [hf] at q
    refine hc Γ2 O σ H2 _ _ R2.rel q fun rc Γ3 z H3 R3 e3 q3 => ?_
    obtain ⟨n, rfl, q3⟩ := q3
    obtain rfl := (show B2 C.K O H3 z (.int n) from .inl R3.2).int
    exact ⟨j, n, rfl, rfl, k (.val (.bl (f' j n))) Γ3 _ H3 ⟨R3.rel, .bl _⟩ (.val (L2.Same.trans e1.1 (L2.Same.trans e2.1 e3.1))) q3⟩
  | false =>
    rw [hf] at q
    exact k (.val (.bl false)) Γ2 _ H2 ⟨R2.rel, .bl _⟩ (.val (L2.Same.trans e1.1 e2.1)) q
end
section
variable {X : Cx} {C : Ctx} {a b c : Expr} {ta tb tc : TE} {ma mb mc : DTE} {op op' : CmpOp} {pos : Pos} {r r' : R2} {f f' : Int → Int → Bool}
theorem de_chain2 (h : ∀ {ta tb tc : TE}, PE X a ta → PE X b tb → PE X c tc → PE X (.Compare a [op, op'] [b, c] pos) (tChain (rI0 fun i j => .bl (f i j)) (rI0 fun i j => .bl (f' i j)) ta tb tc)) (ha : DE X C a ta ma) (hb : DE X C b tb mb) (hc : DE X C c tc mc) : DE X C (.Compare a [op, op'] [b, c] pos) (tChain (rI0 fun i j => .bl (f i j)) (rI0 fun i j => .bl (f' i j)) ta tb tc) (mChain f f' ma mb mc) :=
  ⟨h ha.pe hb.pe hc.pe, sim_chain ha.sim hb.sim hc.sim⟩
theorem dt_chain2 (h : ∀ {ta tb tc : TE}, PE X a ta → PE X b tb → PE X c tc → PT X (.Compare a [op, op'] [b, c] pos) (tTest (tChain (rI0 fun i j => .bl (f i j)) (rI0 fun i j => .bl (f' i j)) ta tb tc))) (ha : DE X C a ta ma) (hb : DE X C b tb mb) (hc : DE X C c tc mc) : DT X C (.Compare a [op, op'] [b, c] pos) (tTest (tChain (rI0 fun i j => .bl (f i j)) (rI0 fun i j => .bl (f' i j)) ta tb tc)) (mTest (mChain f f' ma mb mc)) :=
  ⟨h ha.pe hb.pe hc.pe, sim_test (sim_chain ha.sim hb.sim hc.sim)⟩
end
section
variable {P : Program} {w : World} {K : Fg} {mg : Str → Option Value} {base : Heap} {k : Nat} {f : Addr} {fd : FuncData} {ps : List Str}
theorem fn_dm {x qual : Str} {st : Stmt} {N : List Str} {ms : List Md} {sd : DSp} {m : DTS} (F : Fun K x qual st f fd) (S : FnScope N ps (defScope st)) (hl : (strip ms).length = ps.length)
    (hv : ∀ ds Qd Ed, ds.length = ms.length → sd ds Qd Ed → m (endsD ms Qd) (startD N ms ds))
    (body : ∀ (cdv : Value) (A : Around) (outer : List PySem.Env) (s : Shared) (H0 : Hp) (vs : List V) (E : XK) (O : List Addr) (H : Hp), (A.deeper (envOfC qual (defScope st) s.heap.objs.size f cdv)).guards = some [] → Room k (A.deeper (envOfC qual (defScope st) s.heap.objs.size f cdv)) →
      ∃ t, DSs (cxOf (L2N.CX P w) P w K mg base N qual (defScope st) f cdv A outer s H0 E).nox (ctx0 K O H ms vs) (defBody st) t m) (wf : wfG ms = true := by rfl) (hN : ms.length ≤ N.length := by decide) : FnG P w K mg base (k + 1) f fd ps (spD K ms sd) :=
  fn_d F S hl (fun cdv A outer s H0 vs E O H hg hr => by
    obtain ⟨t, d⟩ := body cdv A outer s H0 vs E O H hg hr
    exact ⟨t, m, d, hv⟩) wf hN
end
/-! comparisons as tests, the fragment named from outside -/
section
variable {X : Cx} {C : Ctx} {a b : Expr} {ta tb : TE} {ma mb : DTE} {pos : Pos}
theorem dt_eq (hu : X.A.units + 64 < cLine) (ha : DE X C a ta ma) (hb : DE X C b tb mb) {K0 : Fg} (hK0 : X.K = K0 := by rfl) (hK : K0 = C.K := by rfl) : DT X C (.Compare a [.Eq] [b] pos) (tTest (tOp (rEqD K0) ta tb)) (mTest (mOp eqD ma mb)) := by
  subst hK0; exact dt_cmp (op_eqD hu) (by rw [hK]; exact sim_eq) ha hb (nomark _)
theorem dt_ne (hu : X.A.units + 64 < cLine) (ha : DE X C a ta ma) (hb : DE X C b tb mb) {K0 : Fg} (hK0 : X.K = K0 := by rfl) (hK : K0 = C.K := by rfl) : DT X C (.Compare a [.NotEq] [b] pos) (tTest (tOp (rNeD K0) ta tb)) (mTest (mOp neD ma mb)) := by
  subst hK0; exact dt_cmp (op_neD hu) (by rw [hK]; exact sim_ne) ha hb (nomark _)
end
end DL
/-! the data layer, part 15: words for what is left of a law: plain data, loops by an invariant, comprehensions by a function -/
namespace DL
open PySem L2
/-! ### lists of numbers -/
abbrev iL (l : List Int) : D := .lst (l.map D.int)
theorem toPys_ints : ∀ l : List Int, toPys (l.map D.int) = l.map PyData.int
  | [] => by simp only [List.map_nil, toPys]
  | x :: l => by rw [List.map_cons, toPys, toPys_ints l, toPy, List.map_cons]
theorem plains_ints : ∀ l : List Int, plains (l.map D.int) = true
  | [] => by simp only [List.map_nil, plains]
  | x :: l => by rw [List.map_cons, plains, plains_ints l, plain]; rfl
theorem lay_ints : ∀ l : List Int, PyData.canLayAll0 (l.map PyData.int) = true
  | [] => by simp only [List.map_nil, PyData.canLayAll0]
  | x :: l => by rw [List.map_cons, PyData.canLayAll0, lay_ints l, PyData.canLay0]; rfl
theorem depth_ints : ∀ l : List Int, PyData.depthAll (l.map PyData.int) = 0
  | [] => by simp only [List.map_nil, PyData.depthAll]
  | x :: l => by rw [List.map_cons, PyData.depthAll, depth_ints l, PyData.depth]; rfl
theorem eqvAll_ints : ∀ l m : List Int, PyData.eqvAll (l.map PyData.int) (m.map PyData.int) = decide (l = m)
  | [], [] => by simp [PyData.eqvAll]
  | [], y :: m => by simp [PyData.eqvAll]
  | x :: l, [] => by simp [PyData.eqvAll]
  | x :: l, y :: m => by
    rw [List.map_cons, List.map_cons, PyData.eqvAll, eqvAll_ints l m, PyData.eqv]
    rw [Bool.eq_iff_iff]
    simp
theorem okE_int (i : Int) : okE (.int i) = true := by simp [okE, plain, toPy, SeqAt.shaped, PyData.canLay0, PyData.depth]
theorem okE_bl (i : Bool) : okE (.bl i) = true := by simp [okE, plain, toPy, SeqAt.shaped, PyData.canLay0, PyData.depth]
theorem okE_ints (l : List Int) : okE (.lst (l.map D.int)) = true := by simp [okE, plain, toPy, SeqAt.shaped, PyData.canLay0, PyData.depth, plains_ints, toPys_ints, lay_ints, depth_ints]
theorem okE_tints (l : List Int) : okE (.tup (l.map D.int)) = true := by simp [okE, plain, toPy, SeqAt.shaped, PyData.canLay0, PyData.depth, plains_ints, toPys_ints, lay_ints, depth_ints]
theorem eqv_int (i j : Int) : eqv (.int i) (.int j) = decide (i = j) := by
  rw [eqv, toPy, toPy, PyData.eqv, Bool.eq_iff_iff]; simp
theorem eqv_bl (i j : Bool) : eqv (.bl i) (.bl j) = decide (i = j) := by
  rw [eqv, toPy, toPy, PyData.eqv, Bool.eq_iff_iff]; simp
theorem eqv_ints (l m : List Int) : eqv (.lst (l.map D.int)) (.lst (m.map D.int)) = decide (l = m) := by
  rw [eqv, toPy, toPy, PyData.eqv, toPys_ints, toPys_ints, eqvAll_ints]
theorem eqv_tints (l m : List Int) : eqv (.tup (l.map D.int)) (.tup (m.map D.int)) = decide (l = m) := by
  rw [eqv, toPy, toPy, PyData.eqv, toPys_ints, toPys_ints, eqvAll_ints]
theorem eqv_ssS (a b : Str) : eqv (.str a) (.str b) = (a == b) := by
  rw [eqv, toPy, toPy, PyData.eqv]
/-- l[i] -/
def ig (l : List Int) (i : Int) : Int := l.getD (if 0 ≤ i then i else i + l.length).toNat 0
theorem atI_ints {l : List Int} {i : Int} (h : -(l.length : Int) ≤ i ∧ i < l.length) : atI (l.map D.int) i = some (.int (ig l i)) := by
  unfold atI ixN ig
  rw [List.length_map]
  by_cases h0 : 0 ≤ i
  · rw [if_pos h0, if_pos h0, if_pos h.2, Option.bind_some, List.getElem?_map, List.getElem?_eq_getElem (by omega)]
    simp [List.getD, List.getElem?_eq_getElem (show i.toNat < l.length by omega)]
  · rw [if_neg h0, if_neg h0, if_pos h.1, Option.bind_some, List.getElem?_map, List.getElem?_eq_getElem (by omega)]
    simp [List.getD, List.getElem?_eq_getElem (show (i + l.length).toNat < l.length by omega)]
theorem ixN_nat {n j : Nat} (h : j < n) : ixN n (j : Int) = some j := by
  unfold ixN
  rw [if_pos (by omega), if_pos (by omega)]
  rfl
theorem ixN_pos {n : Nat} {i : Int} (h0 : 0 ≤ i) (h : i < n) : ixN n i = some i.toNat := by
  unfold ixN
  rw [if_pos h0, if_pos h]
/-! ### repr of numbers -/
theorem Str_len (s : String) : (Str.ofString s).length = s.length := by
  exact ofString_length s
/-! ### loops by an invariant -/
theorem rngD_cons (lo : Int) (n : Nat) : rngD lo (n + 1) = .int lo :: rngD (lo + 1) n := by
  unfold rngD
  rw [List.range_succ_eq_map, List.map_cons, List.map_map]
  congr 1
  · simp
  · apply List.map_congr_left; intro a _; simp; omega
/-- over a range: what holds before turn i -/
theorem loop_rng {src : Src} {mg : DTG} {mb : DTS} {K : DEnds} (hi : Int) (I : Int → Env → Prop) (hs : ∀ i Γ, I i Γ → srcL Γ src) (hn : ∀ Γ, I hi Γ → K.nx Γ)
    (hc : ∀ i Γ (N : Env → Prop), i < hi → I i Γ → (∀ Γ', I (i + 1) Γ' → N Γ') → mg (.int i) Γ fun Γ2 => mb { K with nx := N, ct := N, bk := K.nx } Γ2) : ∀ (n : Nat) (lo : Int) (Γ : Env), lo + n = hi → I lo Γ → loopM src mg mb K (rngD lo n) Γ
  | 0, lo, Γ, e, h => by
    have : lo = hi := by omega
    subst this
    exact ⟨hs _ _ h, hn _ h⟩
  | n + 1, lo, Γ, e, h => by
    rw [rngD_cons]
    exact ⟨hs _ _ h, hc lo Γ _ (by omega) h fun Γ' h' => loop_rng hi I hs hn hc n (lo + 1) Γ' (by omega) h'⟩
def cik (acc : List D) (Γ : Env) (vs : List Nat) (N : List D → Env → Prop) (r : Res) (Γ4 : Env) : Prop := ∃ d, dat r = some d ∧ acc.length < 100000 ∧ N (acc ++ [d]) (restD Γ Γ4 vs)
def cfk (Γ : Env) (vs : List Nat) (N : Option D → Env → Prop) (r : Res) (Γ4 : Env) : Prop := ∃ d, dat r = some d ∧ N (some d) (restD Γ Γ4 vs)
theorem c_ik {acc : List D} {Γ Γ4 Γ' : Env} {vs : List Nat} {N : List D → Env → Prop} {r : Res} {d : D} (h1 : dat r = some d) (h2 : acc.length < 100000) (h3 : restD Γ Γ4 vs = Γ') (h : N (acc ++ [d]) Γ') : cik acc Γ vs N r Γ4 := ⟨_, h1, h2, by rw [h3]; exact h⟩
theorem c_fk {Γ Γ4 Γ' : Env} {vs : List Nat} {N : Option D → Env → Prop} {r : Res} {d : D} (h1 : dat r = some d) (h3 : restD Γ Γ4 vs = Γ') (h : N (some d) Γ') : cfk Γ vs N r Γ4 := ⟨_, h1, by rw [h3]; exact h⟩
/-- a comprehension that leaves the slots alone: by a function -/
theorem comp_fn {src : Src} {mg : DTG} {mt : DTT} {me : DTE} {vs : List Nat} {Q : List D → Env → Prop} {Γ : Env} (g : D → Option D) (hs : srcD Γ src) (ho : okOwn Γ vs = true) :
    ∀ (items acc : List D), (∀ x ∈ items, ∀ (N : Option D → Env → Prop), N (g x) Γ → mg x (wipeD Γ vs) fun Γ2 => mt Γ2 fun b Γ3 => if b = true then me Γ3 (cfk Γ vs N) else N none (restD Γ Γ3 vs)) → acc.length + items.length ≤ 100000 → Q (acc ++ items.filterMap g) Γ → compM src mg mt me vs Q items acc Γ
  | [], acc, _, _, hq => ⟨hs, by rw [List.filterMap_nil, List.append_nil] at hq; exact hq⟩
  | x :: xs, acc, h, hl, hq => by
    refine ⟨hs, ho, ?_⟩
    have hl' : acc.length + (xs.length + 1) ≤ 100000 := hl
    refine h x (List.mem_cons_self ..) (fun o Γ' => match o with
      | some d => acc.length < 100000 ∧ compM src mg mt me vs Q xs (acc ++ [d]) Γ'
      | none => compM src mg mt me vs Q xs acc Γ') ?_
    cases hg : g x with
    | some d =>
      rw [List.filterMap_cons_some hg] at hq
      refine ⟨by omega, comp_fn g hs ho xs (acc ++ [d]) (fun y hy => h y (List.mem_cons_of_mem _ hy)) (by rw [List.length_append, List.length_singleton]; omega) ?_⟩
      rw [List.append_assoc]; exact hq
    | none =>
      rw [List.filterMap_cons_none hg] at hq
      exact comp_fn g hs ho xs acc (fun y hy => h y (List.mem_cons_of_mem _ hy)) (by omega) hq
/-- a comprehension by an invariant -/
theorem comp_inv {src : Src} {mg : DTG} {mt : DTT} {me : DTE} {vs : List Nat} {Q : List D → Env → Prop} (I : List D → List D → Env → Prop) (hs : ∀ xs acc Γ, I xs acc Γ → srcD Γ src ∧ okOwn Γ vs = true) (hn : ∀ acc Γ, I [] acc Γ → Q acc Γ)
    (hc : ∀ x xs acc Γ (N : List D → Env → Prop), I (x :: xs) acc Γ → (∀ acc' Γ', I xs acc' Γ' → N acc' Γ') → mg x (wipeD Γ vs) fun Γ2 => mt Γ2 fun b Γ3 => if b = true then me Γ3 (cik acc Γ vs N) else N acc (restD Γ Γ3 vs)) :
    ∀ (items acc : List D) (Γ : Env), I items acc Γ → compM src mg mt me vs Q items acc Γ
  | [], acc, Γ, h => ⟨(hs _ _ _ h).1, hn _ _ h⟩
  | x :: xs, acc, Γ, h => ⟨(hs _ _ _ h).1, (hs _ _ _ h).2, hc x xs acc Γ (fun a g => compM src mg mt me vs Q xs a g) h fun a' Γ' h' => comp_inv I hs hn hc xs a' Γ' h'⟩
/-! ### the bag of a law -/
def BagD (b : D) : Prop := ∃ (big seed pos : Int) (cells : List Int), b = .lst [.int big, .int seed, .int pos, .lst (cells.map D.int)] ∧ 0 ≤ big ∧ 0 ≤ seed ∧ seed < 2147483647 ∧ 0 ≤ pos ∧ ∀ c ∈ cells, 0 ≤ c
/-- what a draw promises -/
def takeD : DSp := fun ds Q _ => ∃ b many, ds = [b, .int many] ∧ BagD b ∧ 0 < many ∧ many < 2 ^ 256 ∧ ∀ k b', 0 ≤ k → k < many → BagD b' → Q false (.int k) [b']
/-- what the making of the bag promises -/
def bagD : DSp := fun ds Q _ => ∃ ns : List Int, ds = [.scr (ns.map D.int)] ∧ ∀ b, BagD b → Q true b []
/-! ### one statement at a time -/
theorem atI_0 {α : Type} {a : α} {l : List α} : atI (a :: l) 0 = some a := by
  unfold atI ixN
  rw [if_pos (by decide), if_pos (by rw [List.length_cons]; omega)]
  rfl
theorem atI_1 {α : Type} {a b : α} {l : List α} : atI (a :: b :: l) 1 = some b := by
  unfold atI ixN
  rw [if_pos (by decide), if_pos (by rw [List.length_cons, List.length_cons]; omega)]
  rfl
theorem atI_2 {α : Type} {a b c : α} {l : List α} : atI (a :: b :: c :: l) 2 = some c := by
  unfold atI ixN
  rw [if_pos (by decide), if_pos (by rw [List.length_cons, List.length_cons, List.length_cons]; omega)]
  rfl
theorem atI_3 {α : Type} {a b c d : α} {l : List α} : atI (a :: b :: c :: d :: l) 3 = some d := by
  unfold atI ixN
  rw [if_pos (by decide), if_pos (by rw [List.length_cons, List.length_cons, List.length_cons, List.length_cons]; omega)]
  rfl
theorem ixN_0 {n : Nat} : ixN (n + 1) 0 = some 0 := by
  unfold ixN
  rw [if_pos (by decide), if_pos (by omega)]; rfl
theorem ixN_1 {n : Nat} : ixN (n + 2) 1 = some 1 := by
  unfold ixN
  rw [if_pos (by decide), if_pos (by omega)]; rfl
theorem ixN_2 {n : Nat} : ixN (n + 3) 2 = some 2 := by
  unfold ixN
  rw [if_pos (by decide), if_pos (by omega)]; rfl
theorem ixN_3 {n : Nat} : ixN (n + 4) 3 = some 3 := by
  unfold ixN
  rw [if_pos (by decide), if_pos (by omega)]; rfl
theorem mulOk_r {i j : Int} (h1 : -(2 ^ 64) < j) (h2 : j < 2 ^ 64) : MulOk i j := .inl (.inr ⟨h1, h2⟩)
theorem mulOk_l {i j : Int} (h1 : -(2 ^ 64) < i) (h2 : i < 2 ^ 64) : MulOk i j := .inl (.inl ⟨h1, h2⟩)
theorem divW_of {i j : Int} (h1 : 0 < j) (h2 : j < 2 ^ 256) : CDivW i j := by
  refine ⟨h1, ?_⟩
  have h3 : j.natAbs < 2 ^ 256 := by omega
  have h4 : j.natAbs ≠ 0 := by omega
  have h5 := (Nat.log2_lt h4 (k := 256)).mpr h3
  omega
/-! the ends, kept folded -/
def rtD (ms : List Md) (Qd : Bool → D → List D → Prop) : Res → Env → Prop := (endsD ms Qd).rt
theorem endsD_mk {ms : List Md} {Qd : Bool → D → List D → Prop} : endsD ms Qd = .mk (fun Γ => Qd false .non (iosD ms Γ)) (rtD ms Qd) (fun _ => False) (fun _ => False) := rfl
theorem cut {m n : DTS} {a : Env → Prop} {b : Res → Env → Prop} {c d : Env → Prop} {Γ : Env} (P : Env → Prop) (h1 : ∀ N : Env → Prop, (∀ Γ', P Γ' → N Γ') → m (.mk N b c d) Γ) (h2 : ∀ Γ', P Γ' → n (.mk a b c d) Γ') : mSeqS m n (.mk a b c d) Γ := h1 (n (.mk a b c d)) h2
end DL
/-! the data layer, part 16: one step of a reading at a time -/
namespace DL
open PySem L2
section
variable {Γ Γ' : Env} {Q : QE} {i : Nat} {d e : D} {ma mb mc : DTE} {mr : DTA} {f : D → D → (Res → Prop) → Prop} {g : List D → (Res → Prop) → Prop} {r r2 : Res} {rs : List Res} {ds : List D} {b : Bool}
theorem e_C (h : Q (.val d) Γ) : mC d Γ Q := h
def vq (s : Sl) (i : Nat) (Γ : Env) (Q : QE) : Prop := match s with
    | .sh d => Q (.val d) Γ
    | .ow _ => Q (.pl i) Γ
    | .io _ => Q (.pl i) Γ
    | .bo _ => Q (.pl i) Γ
    | .pn _ _ => Q (.pl i) Γ
    | _ => False
theorem e_V {s : Sl} (hs : Γ[i]? = some s) (h : vq s i Γ Q) : mVar i Γ Q := by
  unfold mVar
  rw [hs]
  cases s <;> exact h
theorem v_sh (h : Q (.val d) Γ) : vq (.sh d) i Γ Q := h
theorem v_ow (h : Q (.pl i) Γ) : vq (.ow d) i Γ Q := h
theorem v_io (h : Q (.pl i) Γ) : vq (.io d) i Γ Q := h
theorem v_bo (h : Q (.pl i) Γ) : vq (.bo d) i Γ Q := h
def op2 (f : D → D → (Res → Prop) → Prop) (Γ : Env) (ra rb : Res) (Q : QE) : Prop := ∃ a b, rd Γ ra = some a ∧ rd Γ rb = some b ∧ f a b fun r => Q r Γ
theorem e_op (h : ma Γ fun ra Γ1 => mb Γ1 fun rb Γ2 => op2 f Γ2 ra rb Q) : mOp f ma mb Γ Q := h
theorem e_op2 (h1 : rd Γ r = some d) (h2 : rd Γ r2 = some e) (h : f d e fun r => Q r Γ) : op2 f Γ r r2 Q := ⟨_, _, h1, h2, h⟩
def op1 (f : D → (Res → Prop) → Prop) (Γ : Env) (ra : Res) (Q : QE) : Prop := ∃ a, rd Γ ra = some a ∧ f a fun r => Q r Γ
theorem e_un {f : D → (Res → Prop) → Prop} (h : ma Γ fun ra Γ1 => op1 f Γ1 ra Q) : mUn f ma Γ Q := h
theorem e_op1 {f : D → (Res → Prop) → Prop} (h1 : rd Γ r = some d) (h : f d fun r => Q r Γ) : op1 f Γ r Q := ⟨_, h1, h⟩
def tst (r : Res) (Γ : Env) (Q : Bool → Env → Prop) : Prop := ∃ b, r = .val (.bl b) ∧ Q b Γ
theorem e_test {Q : Bool → Env → Prop} (h : ma Γ fun r Γ1 => tst r Γ1 Q) : mTest ma Γ Q := h
theorem e_tst {Q : Bool → Env → Prop} (h : Q b Γ) : tst (.val (.bl b)) Γ Q := ⟨_, rfl, h⟩
def andv (r : Res) (Γ : Env) (mb : DTE) (Q : QE) : Prop := ∃ b, r = .val (.bl b) ∧ if b = true then mb Γ Q else Q (.val (.bl false)) Γ
def orv (r : Res) (Γ : Env) (mb : DTE) (Q : QE) : Prop := ∃ b, r = .val (.bl b) ∧ if b = true then Q (.val (.bl true)) Γ else mb Γ Q
def notv (r : Res) (Γ : Env) (Q : QE) : Prop := ∃ b, r = .val (.bl b) ∧ Q (.val (.bl (!b))) Γ
theorem e_andV (h : ma Γ fun r Γ1 => andv r Γ1 mb Q) : mAndV ma mb Γ Q := h
theorem e_orV (h : ma Γ fun r Γ1 => orv r Γ1 mb Q) : mOrV ma mb Γ Q := h
theorem e_notV (h : ma Γ fun r Γ1 => notv r Γ1 Q) : mNotV ma Γ Q := h
theorem e_andv (h : if b = true then mb Γ Q else Q (.val (.bl false)) Γ) : andv (.val (.bl b)) Γ mb Q := ⟨_, rfl, h⟩
theorem e_orv (h : if b = true then Q (.val (.bl true)) Γ else mb Γ Q) : orv (.val (.bl b)) Γ mb Q := ⟨_, rfl, h⟩
theorem e_notv (h : Q (.val (.bl (!b))) Γ) : notv (.val (.bl b)) Γ Q := ⟨_, rfl, h⟩
theorem e_and {ma mb : DTT} {Q : Bool → Env → Prop} (h : ma Γ fun b Γ1 => if b = true then mb Γ1 Q else Q false Γ1) : mAnd ma mb Γ Q := h
theorem e_or {ma mb : DTT} {Q : Bool → Env → Prop} (h : ma Γ fun b Γ1 => if b = true then Q true Γ1 else mb Γ1 Q) : mOr ma mb Γ Q := h
theorem e_not {ma : DTT} {Q : Bool → Env → Prop} (h : ma Γ fun b Γ1 => Q (!b) Γ1) : mNot ma Γ Q := h
theorem e_if {mt : DTT} (h : mt Γ fun b Γ1 => if b = true then ma Γ1 Q else mb Γ1 Q) : mIf mt ma mb Γ Q := h
theorem e_ite {b : Bool} {x y : Prop} (h1 : b = true → x) (h2 : b = false → y) : if b = true then x else y := by
  cases b with
  | true => exact h1 rfl
  | false => exact h2 rfl
theorem e_Tt {x y : Prop} (h1 : x) : if true = true then x else y := h1
theorem e_Ff {x y : Prop} (h1 : y) : if false = true then x else y := h1
theorem e_nTt {x y : Prop} (h1 : y) : if (!true) = true then x else y := h1
theorem e_nFf {x y : Prop} (h1 : x) : if (!false) = true then x else y := h1
theorem e_T {b : Bool} {x y : Prop} (h : b = true) (h1 : x) : if b = true then x else y := by rw [if_pos h]; exact h1
theorem e_F {b : Bool} {x y : Prop} (h : b = false) (h1 : y) : if b = true then x else y := by subst h; exact h1
theorem e_dT {p x y : Prop} [Decidable p] (h : p) (h1 : x) : if decide p = true then x else y := e_T (decide_eq_true h) h1
theorem e_dF {p x y : Prop} [Decidable p] (h : ¬ p) (h1 : y) : if decide p = true then x else y := e_F (decide_eq_false h) h1
theorem e_nT {p x y : Prop} [Decidable p] (h : p) (h1 : y) : if (!decide p) = true then x else y := e_F (by rw [decide_eq_true h]; rfl) h1
theorem e_nF {p x y : Prop} [Decidable p] (h : ¬ p) (h1 : x) : if (!decide p) = true then x else y := e_T (by rw [decide_eq_false h]; rfl) h1
theorem e_dif {p x y : Prop} [Decidable p] (h1 : p → x) (h2 : ¬ p → y) : if decide p = true then x else y := e_ite (fun h => h1 (of_decide_eq_true h)) fun h => h2 (of_decide_eq_false h)
theorem e_nif {p x y : Prop} [Decidable p] (h1 : ¬ p → x) (h2 : p → y) : if (!decide p) = true then x else y := e_ite (fun h => h1 (by simpa using h)) fun h => h2 (by simpa using h)
theorem e_nil {Q : List Res → Env → Prop} (h : Q [] Γ) : mNil Γ Q := h
theorem e_cons {Q : List Res → Env → Prop} (h : ma Γ fun r Γ1 => mr Γ1 fun rs Γ2 => Q (r :: rs) Γ2) : mCons ma mr Γ Q := h
def cbk (f : List D → (Res → Prop) → Prop) (Γ : Env) (rs : List Res) (Q : QE) : Prop := ∃ ds, rds Γ rs = some ds ∧ f ds fun r => Q r Γ
theorem e_CB (h : mr Γ fun rs Γ1 => cbk g Γ1 rs Q) : mCB g mr Γ Q := h
theorem e_cb (h1 : rds Γ rs = some ds) (h : g ds fun r => Q r Γ) : cbk g Γ rs Q := ⟨_, h1, h⟩
def lsk (Γ : Env) (rs : List Res) (Q : QE) : Prop := ∃ ds, dats rs = some ds ∧ ds.length ≤ 100000 ∧ Q (.fr (.lst ds)) Γ
def tpk (Γ : Env) (rs : List Res) (Q : QE) : Prop := ∃ ds, dats rs = some ds ∧ ds.length ≤ 100000 ∧ Q (.val (.tup ds)) Γ
theorem e_Lst (h : mr Γ fun rs Γ1 => lsk Γ1 rs Q) : mLst mr Γ Q := h
theorem e_Tup (h : mr Γ fun rs Γ1 => tpk Γ1 rs Q) : mTup mr Γ Q := h
theorem e_lst (h1 : dats rs = some ds) (h2 : ds.length ≤ 100000) (h : Q (.fr (.lst ds)) Γ) : lsk Γ rs Q := ⟨_, h1, h2, h⟩
theorem e_tup (h1 : dats rs = some ds) (h2 : ds.length ≤ 100000) (h : Q (.val (.tup ds)) Γ) : tpk Γ rs Q := ⟨_, h1, h2, h⟩
def slk (f : D → Option Int → Option Int → (Res → Prop) → Prop) (Γ : Env) (r : Res) (lo hi : Option Int) (Q : QE) : Prop := ∃ d, rd Γ r = some d ∧ f d lo hi fun r => Q r Γ
theorem e_Sl {f : D → Option Int → Option Int → (Res → Prop) → Prop} {ml mh : Env → (Option Int → Env → Prop) → Prop} (h : ma Γ fun r Γ1 => ml Γ1 fun lo Γ2 => mh Γ2 fun hi Γ3 => slk f Γ3 r lo hi Q) : mSl f ma ml mh Γ Q := h
theorem e_sl {f : D → Option Int → Option Int → (Res → Prop) → Prop} {lo hi : Option Int} (h1 : rd Γ r = some d) (h : f d lo hi fun r => Q r Γ) : slk f Γ r lo hi Q := ⟨_, h1, h⟩
theorem e_noP {Q : Option Int → Env → Prop} (h : Q none Γ) : mNoP Γ Q := h
def prk (r : Res) (Γ : Env) (Q : Option Int → Env → Prop) : Prop := ∃ i, r = .val (.int i) ∧ Q (some i) Γ
theorem e_Part {Q : Option Int → Env → Prop} (h : ma Γ fun r Γ1 => prk r Γ1 Q) : mPart ma Γ Q := h
theorem e_part {Q : Option Int → Env → Prop} {i : Int} (h : Q (some i) Γ) : prk (.val (.int i)) Γ Q := ⟨_, rfl, h⟩
theorem i_slL {lo hi : Option Int} {Q : Res → Prop} (h : Q (.fr (.lst (DL.cutD ds lo hi)))) : slD (.lst ds) lo hi Q := h
theorem i_slT {lo hi : Option Int} {Q : Res → Prop} (h : Q (.val (.tup (DL.cutD ds lo hi)))) : slD (.tup ds) lo hi Q := h
theorem i_slC {lo hi : Option Int} {Q : Res → Prop} (h : Q (.fr (.lst (DL.cutD ds lo hi)))) : slD (.scr ds) lo hi Q := h
def rvk (r : Res) (Γ : Env) (Q : QE) : Prop := ∃ ds, rd Γ r = some (.lst ds) ∧ Q (.fr (.lst ds.reverse)) Γ
theorem e_RevL (h : ma Γ fun r Γ1 => rvk r Γ1 Q) : mRevL ma Γ Q := h
theorem e_revL (h1 : rd Γ r = some (.lst ds)) (h : Q (.fr (.lst ds.reverse)) Γ) : rvk r Γ Q := ⟨_, h1, h⟩
def isk (T : String) (r : Res) (Γ : Env) (Q : QE) : Prop := ∃ d, rd Γ r = some d ∧ (tyN d).isSome = true ∧ Q (.val (.bl (isTy T d))) Γ
theorem e_Isi {T : String} (h : ma Γ fun r Γ1 => isk T r Γ1 Q) : mIsi T ma Γ Q := h
theorem e_isi {T : String} (h1 : rd Γ r = some d) (h2 : (tyN d).isSome = true) (h3 : isTy T d = b) (h : Q (.val (.bl b)) Γ) : isk T r Γ Q := ⟨_, h1, h2, by rw [h3]; exact h⟩
theorem e_isiT {T : String} (h1 : rd Γ r = some d) (h2 : (tyN d).isSome = true) (h3 : isTy T d = true) (h : Q (.val (.bl true)) Γ) : isk T r Γ Q := e_isi h1 h2 h3 h
theorem e_isiF {T : String} (h1 : rd Γ r = some d) (h2 : (tyN d).isSome = true) (h3 : isTy T d = false) (h : Q (.val (.bl false)) Γ) : isk T r Γ Q := e_isi h1 h2 h3 h
/-! calls -/
def clk (ms : List Md) (sd : DSp) (Γ : Env) (rs : List Res) (Q : QE) : Prop := ∃ ds, argsD Γ ms rs = some ds ∧ apartB ms rs = true ∧ sd ds (fun b d ds' => ∃ Γ2, putsD (mPls ms rs) ds' Γ = some Γ2 ∧ Q (if b = true then frOf d else .val d) Γ2) noX
def ptk (is : List Nat) (Γ : Env) (Q : QE) : Bool → D → List D → Prop := fun b d ds' => ∃ Γ2, putsD is ds' Γ = some Γ2 ∧ Q (if b = true then frOf d else .val d) Γ2
theorem e_Call {ms : List Md} {sd : DSp} (h : mr Γ fun rs Γ1 => clk ms sd Γ1 rs Q) : mCall ms sd mr Γ Q := h
theorem e_call {ms : List Md} {sd : DSp} {is : List Nat} (h1 : argsD Γ ms rs = some ds) (h2 : apartB ms rs = true) (h3 : mPls ms rs = is) (h : sd ds (ptk is Γ Q) noX) : clk ms sd Γ rs Q := ⟨_, h1, h2, by subst h3; exact h⟩
theorem e_ptV {is : List Nat} {Γ1 : Env} (h1 : putsD is ds Γ = some Γ1) (h2 : Γ1 = Γ') (h : Q (.val d) Γ') : ptk is Γ Q false d ds := ⟨_, h1, by rw [h2]; exact h⟩
theorem e_ptF {is : List Nat} {Γ1 : Env} (h1 : putsD is ds Γ = some Γ1) (h2 : Γ1 = Γ') (h0 : frOf d = .fr d) (h : Q (.fr d) Γ') : ptk is Γ Q true d ds := ⟨_, h1, by rw [h2, if_pos rfl, h0]; exact h⟩
theorem e_ptN {is : List Nat} {Γ1 : Env} {a : D} {l : List D} (h1 : putsD is ds Γ = some Γ1) (h2 : Γ1 = Γ') (h : Q (.np a l) Γ') : ptk is Γ Q true (.tup [a, .lst l]) ds := ⟨_, h1, by rw [h2]; exact h⟩
/-! list(range(..)) -/
def rgk (r : Res) (Γ : Env) (Q : Int → Int → Env → Prop) : Prop := ∃ n, r = .val (.int n) ∧ Q 0 n Γ
theorem e_Rg1 {Q : Int → Int → Env → Prop} (h : ma Γ fun r Γ1 => rgk r Γ1 Q) : mRg1 ma Γ Q := h
theorem e_rg1 {Q : Int → Int → Env → Prop} {n : Int} (h : Q 0 n Γ) : rgk (.val (.int n)) Γ Q := ⟨_, rfl, h⟩
def rgk2 (r r2 : Res) (Γ : Env) (Q : Int → Int → Env → Prop) : Prop := ∃ i j, r = .val (.int i) ∧ r2 = .val (.int j) ∧ Q i j Γ
theorem e_Rg2 {Q : Int → Int → Env → Prop} (h : ma Γ fun r Γ1 => mb Γ1 fun r2 Γ2 => rgk2 r r2 Γ2 Q) : mRg2 ma mb Γ Q := h
theorem e_rg2 {Q : Int → Int → Env → Prop} {i j : Int} (h : Q i j Γ) : rgk2 (.val (.int i)) (.val (.int j)) Γ Q := ⟨_, _, rfl, rfl, h⟩
def lrk (a b : Int) (Γ : Env) (Q : QE) : Prop := RgOk a b ∧ Q (.fr (.lst (rgD a b))) Γ
def trk (a b : Int) (Γ : Env) (Q : QE) : Prop := RgOk a b ∧ Q (.val (.tup (rgD a b))) Γ
theorem e_LRg {mg : Env → (Int → Int → Env → Prop) → Prop} (h : mg Γ fun a b Γ1 => lrk a b Γ1 Q) : mLRg mg Γ Q := h
theorem e_TRg {mg : Env → (Int → Int → Env → Prop) → Prop} (h : mg Γ fun a b Γ1 => trk a b Γ1 Q) : mTRg mg Γ Q := h
theorem e_lrg {a b : Int} (h1 : RgOk a b) (h : Q (.fr (.lst (rgD a b))) Γ) : lrk a b Γ Q := ⟨h1, h⟩
theorem e_trg {a b : Int} (h1 : RgOk a b) (h : Q (.val (.tup (rgD a b))) Γ) : trk a b Γ Q := ⟨h1, h⟩
/-! chains -/
def ch1 (f f' : Int → Int → Bool) (mc : DTE) (ra rb : Res) (Γ : Env) (Q : QE) : Prop := ∃ i j, ra = .val (.int i) ∧ rb = .val (.int j) ∧
  if f i j = true then mc Γ fun rc Γ3 => ∃ k, rc = .val (.int k) ∧ Q (.val (.bl (f' j k))) Γ3 else Q (.val (.bl false)) Γ
theorem e_Chain {f f' : Int → Int → Bool} (h : ma Γ fun ra Γ1 => mb Γ1 fun rb Γ2 => ch1 f f' mc ra rb Γ2 Q) : mChain f f' ma mb mc Γ Q := h
def ch2 (f' : Int → Int → Bool) (j : Int) (rc : Res) (Γ : Env) (Q : QE) : Prop := ∃ k, rc = .val (.int k) ∧ Q (.val (.bl (f' j k))) Γ
theorem e_ch1 {f f' : Int → Int → Bool} {i j : Int} (h : if f i j = true then mc Γ fun rc Γ3 => ch2 f' j rc Γ3 Q else Q (.val (.bl false)) Γ) : ch1 f f' mc (.val (.int i)) (.val (.int j)) Γ Q := ⟨_, _, rfl, rfl, h⟩
theorem e_ch2 {f' : Int → Int → Bool} {j k : Int} (h : Q (.val (.bl (f' j k))) Γ) : ch2 f' j (.val (.int k)) Γ Q := ⟨_, rfl, h⟩
/-! changes in place -/
def mu0 (f : D → List D → (D → Res → Prop) → Prop) (mr : DTA) (ro : Res) (Γ : Env) (Q : QE) : Prop := ∃ i, ro = .pl i ∧ (∃ ds, cont Γ[i]? = some (.lst ds)) ∧ mr Γ fun rs Γ2 => ∃ c ds, mcont Γ2[i]? = some c ∧ dats rs = some ds ∧ f c ds fun c' z => ∃ Γ3, setC Γ2 i c' = some Γ3 ∧ Q z Γ3
def mu1 (f : D → List D → (D → Res → Prop) → Prop) (i : Nat) (rs : List Res) (Γ : Env) (Q : QE) : Prop := ∃ c ds, mcont Γ[i]? = some c ∧ dats rs = some ds ∧ f c ds fun c' z => ∃ Γ3, setC Γ i c' = some Γ3 ∧ Q z Γ3
def stk (i : Nat) (Γ : Env) (Q : QE) : D → Res → Prop := fun c' z => ∃ Γ3, setC Γ i c' = some Γ3 ∧ Q z Γ3
theorem e_Mut {f : D → List D → (D → Res → Prop) → Prop} (h : ma Γ fun ro Γ1 => mu0 f mr ro Γ1 Q) : mMut f ma mr Γ Q := h
theorem e_mu0 {f : D → List D → (D → Res → Prop) → Prop} (h1 : cont Γ[i]? = some (.lst ds)) (h : mr Γ fun rs Γ2 => mu1 f i rs Γ2 Q) : mu0 f mr (.pl i) Γ Q := ⟨_, rfl, ⟨_, h1⟩, h⟩
theorem e_mu1 {f : D → List D → (D → Res → Prop) → Prop} {c : D} (h1 : mcont Γ[i]? = some c) (h2 : dats rs = some ds) (h : f c ds (stk i Γ Q)) : mu1 f i rs Γ Q := ⟨_, _, h1, h2, h⟩
theorem e_st {c : D} {z : Res} {Γ1 : Env} (h1 : setC Γ i c = some Γ1) (h2 : Γ1 = Γ') (h : Q z Γ') : stk i Γ Q c z := ⟨_, h1, by rw [h2]; exact h⟩
/-! operators -/
theorem i_add {i j : Int} {Q : Res → Prop} (h : Q (.val (.int (i + j)))) : addD (.int i) (.int j) Q := h
theorem i_addL {x y : List D} {Q : Res → Prop} (h1 : x.length + y.length ≤ 100000) (h : Q (.fr (.lst (x ++ y)))) : addD (.lst x) (.lst y) Q := ⟨h1, h⟩
theorem i_sub {i j : Int} {Q : Res → Prop} (h : Q (.val (.int (i - j)))) : subD (.int i) (.int j) Q := h
theorem i_mul {i j : Int} {Q : Res → Prop} (h1 : MulOk i j) (h : Q (.val (.int (i * j)))) : mulD (.int i) (.int j) Q := ⟨h1, h⟩
theorem i_mulL {k : Int} {x : List D} {Q : Res → Prop} (h1 : -(2 ^ 63) ≤ k ∧ k < 2 ^ 63 ∧ x.length * k.toNat ≤ 100000) (h : Q (.fr (.lst (List.replicate k.toNat x).flatten))) : mulD (.lst x) (.int k) Q := ⟨h1, h⟩
theorem i_div {i j : Int} {Q : Res → Prop} (h1 : CDivW i j) (h : Q (.val (.int (i / j)))) : fdivD (.int i) (.int j) Q := ⟨h1, h⟩
theorem i_mod {i j : Int} {Q : Res → Prop} (h1 : 0 < j) (h : Q (.val (.int (i % j)))) : modD (.int i) (.int j) Q := ⟨h1, h⟩
theorem i_pow {i j : Int} {Q : Res → Prop} (h1 : PowOk i j) (h : Q (.val (.int (i ^ j.toNat)))) : powD (.int i) (.int j) Q := ⟨h1, h⟩
theorem i_neg {i : Int} {Q : Res → Prop} (h : Q (.val (.int (-i)))) : negD (.int i) Q := h
theorem i_lt {i j : Int} {Q : Res → Prop} (h : Q (.val (.bl (decide (i < j))))) : ltD (.int i) (.int j) Q := h
theorem i_le {i j : Int} {Q : Res → Prop} (h : Q (.val (.bl (decide (i ≤ j))))) : leD (.int i) (.int j) Q := h
theorem i_gt {i j : Int} {Q : Res → Prop} (h : Q (.val (.bl (decide (j < i))))) : gtD (.int i) (.int j) Q := h
theorem i_ge {i j : Int} {Q : Res → Prop} (h : Q (.val (.bl (decide (j ≤ i))))) : geD (.int i) (.int j) Q := h
theorem i_eq {a c : D} {Q : Res → Prop} (h1 : okE a = true) (h2 : okE c = true) (h3 : eqv a c = b) (h : Q (.val (.bl b))) : eqD a c Q := ⟨h1, h2, by rw [h3]; exact h⟩
theorem i_eqI {i j : Int} {Q : Res → Prop} (h : Q (.val (.bl (decide (i = j))))) : eqD (.int i) (.int j) Q := ⟨okE_int _, okE_int _, by rw [eqv_int]; exact h⟩
theorem i_neI {i j : Int} {Q : Res → Prop} (h : Q (.val (.bl (!decide (i = j))))) : neD (.int i) (.int j) Q := ⟨okE_int _, okE_int _, by rw [eqv_int]; exact h⟩
theorem i_eqL {i j : List Int} {Q : Res → Prop} (h : Q (.val (.bl (decide (i = j))))) : eqD (.lst (i.map D.int)) (.lst (j.map D.int)) Q := ⟨okE_ints _, okE_ints _, by rw [eqv_ints]; exact h⟩
theorem i_neL {i j : List Int} {Q : Res → Prop} (h : Q (.val (.bl (!decide (i = j))))) : neD (.lst (i.map D.int)) (.lst (j.map D.int)) Q := ⟨okE_ints _, okE_ints _, by rw [eqv_ints]; exact h⟩
theorem i_eqB {i j : Bool} {Q : Res → Prop} (h : Q (.val (.bl (decide (i = j))))) : eqD (.bl i) (.bl j) Q := ⟨okE_bl _, okE_bl _, by rw [eqv_bl]; exact h⟩
theorem i_isB {i j : Bool} {Q : Res → Prop} (h : Q (.val (.bl (decide (i = j))))) : isD (.bl i) (.bl j) Q := h
theorem i_isnB {i j : Bool} {Q : Res → Prop} (h : Q (.val (.bl (!decide (i = j))))) : isNotD (.bl i) (.bl j) Q := h
theorem i_ix {i : Int} {Q : Res → Prop} (h1 : atI ds i = some d) (h : Q (.val d)) : ixD (.lst ds) (.int i) Q := ⟨_, h1, h⟩
theorem i_ixT {i : Int} {Q : Res → Prop} (h1 : atI ds i = some d) (h : Q (.val d)) : ixD (.tup ds) (.int i) Q := ⟨_, h1, h⟩
theorem i_len {Q : Res → Prop} (h : Q (.val (.int ds.length))) : lenD [.lst ds] Q := h
theorem i_lenT {Q : Res → Prop} (h : Q (.val (.int ds.length))) : lenD [.tup ds] Q := h
theorem i_lenC {Q : Res → Prop} (h : Q (.val (.int ds.length))) : lenD [.scr ds] Q := h
theorem i_lenI {l : List Int} {Q : Res → Prop} (h : Q (.val (.int l.length))) : lenD [.lst (l.map D.int)] Q := by
  show Q (.val (.int (List.map D.int l).length)); rw [List.length_map]; exact h
theorem i_lenTI {l : List Int} {Q : Res → Prop} (h : Q (.val (.int l.length))) : lenD [.tup (l.map D.int)] Q := by
  show Q (.val (.int (List.map D.int l).length)); rw [List.length_map]; exact h
theorem i_int {i : Int} {Q : Res → Prop} (h : Q (.val (.int i))) : DL.intD [.int i] Q := h
theorem i_intB {i : Bool} {Q : Res → Prop} (h : Q (.val (.int (if i then 1 else 0)))) : DL.intD [.bl i] Q := h
theorem i_abs {i : Int} {Q : Res → Prop} (h : Q (.val (.int (i.natAbs : Int)))) : absD [.int i] Q := h
theorem i_min {i j : Int} {Q : Res → Prop} (h : Q (.val (.int (min i j)))) : minD [.int i, .int j] Q := h
theorem i_max {i j : Int} {Q : Res → Prop} (h : Q (.val (.int (max i j)))) : maxD [.int i, .int j] Q := h
theorem i_max3 {i j l : Int} {Q : Res → Prop} (h : Q (.val (.int (max i (max j l))))) : maxD [.int i, .int j, .int l] Q := h
theorem i_sum {l : List Int} {Q : Res → Prop} (h : Q (.val (.int l.sum))) : sumD [.lst (l.map D.int)] Q := ⟨_, ints?_map l, h⟩
theorem i_sumT {l : List Int} {Q : Res → Prop} (h : Q (.val (.int l.sum))) : sumD [.tup (l.map D.int)] Q := ⟨_, ints?_map l, h⟩
theorem i_all {l : List Bool} {Q : Res → Prop} (h : Q (.val (.bl (l.all id)))) : allD [.lst (l.map D.bl)] Q := ⟨_, bls?_map l, h⟩
theorem i_any {l : List Bool} {Q : Res → Prop} (h : Q (.val (.bl (l.any id)))) : anyD [.lst (l.map D.bl)] Q := ⟨_, bls?_map l, h⟩
theorem i_list {Q : Res → Prop} (h : Q (.fr (.lst ds))) : listD [.lst ds] Q := h
theorem i_listT {Q : Res → Prop} (h : Q (.fr (.lst ds))) : listD [.tup ds] Q := h
theorem i_listC {Q : Res → Prop} (h : Q (.fr (.lst ds))) : listD [.scr ds] Q := h
theorem i_tuple {Q : Res → Prop} (h : Q (.val (.tup ds))) : tupleD [.lst ds] Q := h
theorem i_tupleT {Q : Res → Prop} (h : Q (.val (.tup ds))) : tupleD [.tup ds] Q := h
theorem i_divmod {i j : Int} {Q : Res → Prop} (h1 : CDiv i j) (h : Q (.val (.tup [.int (i / j), .int (i % j)]))) : divmodD [.int i, .int j] Q := ⟨h1, h⟩
theorem i_addI {i j : Int} {Q : Res → Prop} (h : Q (.val (.int (i + j)))) : addI (.int i) (.int j) Q := h
theorem i_subI {i j : Int} {Q : Res → Prop} (h : Q (.val (.int (i - j)))) : subI (.int i) (.int j) Q := h
theorem i_append {Q : D → Res → Prop} (h1 : ds.length < 100000) (h : Q (.lst (ds ++ [d])) (.val .non)) : appendD (.lst ds) [d] Q := ⟨h1, h⟩
theorem i_insert0 {Q : D → Res → Prop} (h1 : ds.length < 100000) (h : Q (.lst (d :: ds)) (.val .non)) : insertD (.lst ds) [.int 0, d] Q := ⟨⟨h1, by decide, by decide⟩, by simpa using h⟩
theorem i_reverse {Q : D → Res → Prop} (h : Q (.lst ds.reverse) (.val .non)) : reverseD (.lst ds) [] Q := h
theorem i_clear {Q : D → Res → Prop} (h : Q (.lst []) (.val .non)) : clearD (.lst ds) [] Q := h
end
section
variable {Γ Γ' : Env} {nx bk ct : Env → Prop} {rt : Res → Env → Prop} {i : Nat} {d : D} {ma me : DTE} {m n : DTS} {mt : DTT} {mg : DTG} {mi : DTI} {r : Res} {rs : List Res} {mp : DTP} {ts : List Tg} {c : D}
theorem s_next (h : nx Γ) : mNext (.mk nx rt bk ct) Γ := h
theorem s_brk (h : bk Γ) : mBrk (.mk nx rt bk ct) Γ := h
theorem s_cnt (h : ct Γ) : mCnt (.mk nx rt bk ct) Γ := h
theorem s_seq (h : m (.mk (n (.mk nx rt bk ct)) rt bk ct) Γ) : mSeqS m n (.mk nx rt bk ct) Γ := h
theorem s_drop (h : ma Γ fun _ Γ1 => nx Γ1) : mDrop ma (.mk nx rt bk ct) Γ := h
theorem s_ret (h : ma Γ rt) : mRet ma (.mk nx rt bk ct) Γ := h
theorem s_retN (h : rt (.val .non) Γ) : mRetN (.mk nx rt bk ct) Γ := h
theorem s_if (h : mt Γ fun b Γ1 => if b = true then m (.mk nx rt bk ct) Γ1 else n (.mk nx rt bk ct) Γ1) : mIfS mt m n (.mk nx rt bk ct) Γ := h
def sek (i : Nat) (r : Res) (Γ : Env) (nx : Env → Prop) : Prop := ∃ d, dat r = some d ∧ freeB Γ i = true ∧ nx (Γ.set i (.sh d))
def sok (i : Nat) (r : Res) (Γ : Env) (nx : Env → Prop) : Prop := ∃ d, r = .fr d ∧ freeB Γ i = true ∧ nx (Γ.set i (.ow d))
theorem s_Set (h : ma Γ fun r Γ1 => sek i r Γ1 nx) : mSet i ma (.mk nx rt bk ct) Γ := h
theorem s_SetO (h : ma Γ fun r Γ1 => sok i r Γ1 nx) : mSetO i ma (.mk nx rt bk ct) Γ := h
theorem s_set (h1 : dat r = some d) (h2 : freeB Γ i = true) (h3 : Γ.set i (.sh d) = Γ') (h : nx Γ') : sek i r Γ nx := ⟨_, h1, h2, by rw [h3]; exact h⟩
theorem s_setO (h2 : freeB Γ i = true) (h3 : Γ.set i (.ow d) = Γ') (h : nx Γ') : sok i (.fr d) Γ nx := ⟨_, rfl, h2, by rw [h3]; exact h⟩
theorem s_frz (h1 : frzD Γ i = some Γ') (h : m (.mk nx rt bk ct) Γ') : mFrz i m (.mk nx rt bk ct) Γ := ⟨_, h1, h⟩
def ask (mg : DTG) (r : Res) (Γ : Env) (nx : Env → Prop) : Prop := ∃ d, dat r = some d ∧ mg d Γ nx
theorem s_Asg (h : ma Γ fun r Γ1 => ask mg r Γ1 nx) : mAsg ma mg (.mk nx rt bk ct) Γ := h
theorem s_asg (h1 : dat r = some d) (h : mg d Γ nx) : ask mg r Γ nx := ⟨_, h1, h⟩
theorem g_name (h1 : freeB Γ i = true) (h2 : Γ.set i (.sh d) = Γ') (h : nx Γ') : mgName i d Γ nx := ⟨h1, by rw [h2]; exact h⟩
theorem g_tup {n : Nat} {ms : DTGs} {ds : List D} (h1 : ds.length = n) (h : ms ds Γ nx) : mgTup n ms (.tup ds) Γ nx := ⟨_, rfl, h1, h⟩
theorem g_cons {ms : DTGs} {ds : List D} (h : mg d Γ fun Γ1 => ms ds Γ1 nx) : mgCons mg ms (d :: ds) Γ nx := ⟨_, _, rfl, h⟩
theorem g_nil (h : nx Γ) : mgNil [] Γ nx := ⟨rfl, h⟩
def sbk (f : D → D → D → (D → Prop) → Prop) (d : D) (ro ri : Res) (Γ : Env) (nx : Env → Prop) : Prop := ∃ i c k, ro = .pl i ∧ cont Γ[i]? = some c ∧ rd Γ ri = some k ∧ f c k d fun c' => ∃ Γ3, setC Γ i c' = some Γ3 ∧ nx Γ3
def sck (i : Nat) (Γ : Env) (nx : Env → Prop) : D → Prop := fun c' => ∃ Γ3, setC Γ i c' = some Γ3 ∧ nx Γ3
theorem g_Sub {f : D → D → D → (D → Prop) → Prop} (h : ma Γ fun ro Γ1 => me Γ1 fun ri Γ2 => sbk f d ro ri Γ2 nx) : mgSub ma me f d Γ nx := h
theorem g_sub {f : D → D → D → (D → Prop) → Prop} {k : D} (h1 : cont Γ[i]? = some c) (h2 : rd Γ r = some k) (h : f c k d (sck i Γ nx)) : sbk f d (.pl i) r Γ nx := ⟨_, _, _, rfl, h1, h2, h⟩
theorem g_set {Γ1 : Env} (h1 : setC Γ i c = some Γ1) (h2 : Γ1 = Γ') (h : nx Γ') : sck i Γ nx c := ⟨_, h1, by rw [h2]; exact h⟩
theorem i_st {ds : List D} {k : Int} {j : Nat} {Q : D → Prop} (h1 : ixN ds.length k = some j) (h : Q (.lst (ds.set j d))) : stD (.lst ds) (.int k) d Q := ⟨_, h1, h⟩
def auk (i : Nat) (x : D) (f : D → D → (Res → Prop) → Prop) (r : Res) (Γ : Env) (nx : Env → Prop) : Prop := ∃ y, rd Γ r = some y ∧ f x y fun z => ∃ d, z = .val d ∧ freeB Γ i = true ∧ nx (Γ.set i (.sh d))
def avk (i : Nat) (Γ : Env) (nx : Env → Prop) : Res → Prop := fun z => ∃ d, z = .val d ∧ freeB Γ i = true ∧ nx (Γ.set i (.sh d))
theorem s_Aug {f : D → D → (Res → Prop) → Prop} {x : D} (h1 : Γ[i]? = some (.sh x)) (h : me Γ fun r Γ1 => auk i x f r Γ1 nx) : mAug i me f (.mk nx rt bk ct) Γ := ⟨_, h1, h⟩
theorem s_aug {f : D → D → (Res → Prop) → Prop} {x y : D} (h1 : rd Γ r = some y) (h : f x y (avk i Γ nx)) : auk i x f r Γ nx := ⟨_, h1, h⟩
theorem s_av (h1 : freeB Γ i = true) (h2 : Γ.set i (.sh d) = Γ') (h : nx Γ') : avk i Γ nx (.val d) := ⟨_, rfl, h1, by rw [h2]; exact h⟩
/-! x[k] op= e -/
def a1k (me : DTE) (f : D → D → (Res → Prop) → Prop) (ro ri : Res) (Γ : Env) (nx : Env → Prop) : Prop := ∃ i ds k x, ro = .pl i ∧ cont Γ[i]? = some (.lst ds) ∧ ri = .val (.int k) ∧ atI ds k = some x ∧ me Γ fun rv Γ3 => ∃ y, rd Γ3 rv = some y ∧ f x y fun z => ∃ d ds3 j, z = .val d ∧ cont Γ3[i]? = some (.lst ds3) ∧ ixN ds3.length k = some j ∧ ∃ Γ4, setC Γ3 i (.lst (ds3.set j d)) = some Γ4 ∧ nx Γ4
def a2k (i : Nat) (k : Int) (x : D) (f : D → D → (Res → Prop) → Prop) (rv : Res) (Γ : Env) (nx : Env → Prop) : Prop := ∃ y, rd Γ rv = some y ∧ f x y fun z => ∃ d ds3 j, z = .val d ∧ cont Γ[i]? = some (.lst ds3) ∧ ixN ds3.length k = some j ∧ ∃ Γ4, setC Γ i (.lst (ds3.set j d)) = some Γ4 ∧ nx Γ4
def a3k (i : Nat) (k : Int) (Γ : Env) (nx : Env → Prop) : Res → Prop := fun z => ∃ d ds3 j, z = .val d ∧ cont Γ[i]? = some (.lst ds3) ∧ ixN ds3.length k = some j ∧ ∃ Γ4, setC Γ i (.lst (ds3.set j d)) = some Γ4 ∧ nx Γ4
theorem s_AugS {mo mi : DTE} {f : D → D → (Res → Prop) → Prop} (h : mo Γ fun ro Γ1 => mi Γ1 fun ri Γ2 => a1k me f ro ri Γ2 nx) : mAugS mo mi me f (.mk nx rt bk ct) Γ := h
theorem s_a1 {f : D → D → (Res → Prop) → Prop} {ds : List D} {k : Int} {x : D} (h1 : cont Γ[i]? = some (.lst ds)) (h2 : atI ds k = some x) (h : me Γ fun rv Γ3 => a2k i k x f rv Γ3 nx) : a1k me f (.pl i) (.val (.int k)) Γ nx := ⟨_, _, _, _, rfl, h1, rfl, h2, h⟩
theorem s_a2 {f : D → D → (Res → Prop) → Prop} {k : Int} {x y : D} (h1 : rd Γ r = some y) (h : f x y (a3k i k Γ nx)) : a2k i k x f r Γ nx := ⟨_, h1, h⟩
theorem s_a3 {k : Int} {ds : List D} {j : Nat} (h1 : cont Γ[i]? = some (.lst ds)) (h2 : ixN ds.length k = some j) {Γ1 : Env} (h3 : setC Γ i (.lst (ds.set j d)) = some Γ1) (h4 : Γ1 = Γ') (h : nx Γ') : a3k i k Γ nx (.val d) := ⟨_, _, _, rfl, h1, h2, _, h3, by rw [h4]; exact h⟩
/-! a, b = .. -/
theorem s_Par (h : mp Γ fun rs Γ1 => mTgs ts rs Γ1 nx) : mPar mp ts (.mk nx rt bk ct) Γ := h
theorem s_Par3 {n : Nat} (h : mp Γ fun rs Γ1 => rs.length = n ∧ mTgs ts rs Γ1 nx) : mPar3 n mp ts (.mk nx rt bk ct) Γ := h
theorem p_nil {Q : List Res → Env → Prop} (h : Q [] Γ) : mPNil Γ Q := h
def pck (r : Res) (mr : DTP) (Γ : Env) (Q : List Res → Env → Prop) : Prop := isPl r = false ∧ mr Γ fun rs Γ2 => Q (r :: rs) Γ2
theorem p_Cons {mr : DTP} {Q : List Res → Env → Prop} (h : ma Γ fun r Γ1 => pck r mr Γ1 Q) : mPCons ma mr Γ Q := h
theorem p_cons {mr : DTP} {Q : List Res → Env → Prop} (h1 : isPl r = false) (h : mr Γ fun rs Γ2 => Q (r :: rs) Γ2) : pck r mr Γ Q := ⟨h1, h⟩
theorem t_nil (h : nx Γ) : mTgs [] [] Γ nx := by rw [mTgs]; exact h
theorem t_sh (h1 : dat r = some d) (h2 : freeB Γ i = true) (h3 : Γ.set i (.sh d) = Γ') (h : mTgs ts rs Γ' nx) : mTgs (.sh i :: ts) (r :: rs) Γ nx := by rw [mTgs]; exact ⟨_, h1, h2, by rw [h3]; exact h⟩
theorem t_ow (h2 : freeB Γ i = true) (h3 : Γ.set i (.ow d) = Γ') (h : mTgs ts rs Γ' nx) : mTgs (.ow i :: ts) (.fr d :: rs) Γ nx := by rw [mTgs]; exact ⟨_, rfl, h2, by rw [h3]; exact h⟩
theorem t_sub {mo mi : DTE} (h1 : dat r = some d) (h : mgSub mo mi stD d Γ fun Γ1 => mTgs ts rs Γ1 nx) : mTgs (.sub mo mi :: ts) (r :: rs) Γ nx := by rw [mTgs]; exact ⟨_, h1, h⟩
theorem t_gen {mg : DTG} (h1 : dat r = some d) (h : mg d Γ fun Γ1 => mTgs ts rs Γ1 nx) : mTgs (.gen mg :: ts) (r :: rs) Γ nx := by rw [mTgs]; exact ⟨_, h1, h⟩
/-! loops -/
theorem s_For (h : mi Γ fun src items Γ1 => loopM src mg m (.mk nx rt bk ct) items Γ1) : mFor mi mg m (.mk nx rt bk ct) Γ := h
def sqk (r : Res) (Γ : Env) (Q : Src → List D → Env → Prop) : Prop := ∃ d ds, rd Γ r = some d ∧ itemsOf d = some ds ∧ Q (srcOf d r) ds Γ
theorem w_Seq {Q : Src → List D → Env → Prop} (h : ma Γ fun r Γ1 => sqk r Γ1 Q) : mSeq ma Γ Q := h
theorem w_seq {Q : Src → List D → Env → Prop} {ds : List D} (h1 : rd Γ r = some d) (h2 : itemsOf d = some ds) (h : Q (srcOf d r) ds Γ) : sqk r Γ Q := ⟨_, _, h1, h2, h⟩
def r1k (rs : List Res) (Γ : Env) (Q : Src → List D → Env → Prop) : Prop := ∃ j : Int, rs = [.val (.int j)] ∧ (-(2 ^ 62) ≤ j ∧ j < 2 ^ 62) ∧ Q .no (rngD 0 j.toNat) Γ
theorem w_Rng1 {mr : DTA} {Q : Src → List D → Env → Prop} (h : mr Γ fun rs Γ1 => r1k rs Γ1 Q) : mRng1 mr Γ Q := h
theorem w_rng1 {Q : Src → List D → Env → Prop} {j : Int} (h1 : -(2 ^ 62) ≤ j ∧ j < 2 ^ 62) (h : Q .no (rngD 0 j.toNat) Γ) : r1k [.val (.int j)] Γ Q := ⟨_, rfl, h1, h⟩
def r2k (rs : List Res) (Γ : Env) (Q : Src → List D → Env → Prop) : Prop := ∃ i j : Int, rs = [.val (.int i), .val (.int j)] ∧ (-(2 ^ 62) ≤ i ∧ i < 2 ^ 62 ∧ -(2 ^ 62) ≤ j ∧ j < 2 ^ 62) ∧ Q .no (rngD i (j - i).toNat) Γ
theorem w_Rng2 {mr : DTA} {Q : Src → List D → Env → Prop} (h : mr Γ fun rs Γ1 => r2k rs Γ1 Q) : mRng2 mr Γ Q := h
theorem w_rng2 {Q : Src → List D → Env → Prop} {i j : Int} (h1 : -(2 ^ 62) ≤ i ∧ i < 2 ^ 62 ∧ -(2 ^ 62) ≤ j ∧ j < 2 ^ 62) (h : Q .no (rngD i (j - i).toNat) Γ) : r2k [.val (.int i), .val (.int j)] Γ Q := ⟨_, _, rfl, h1, h⟩
def enk (r : Res) (Γ : Env) (Q : Src → List D → Env → Prop) : Prop := ∃ d ds, rd Γ r = some d ∧ itemsOf d = some ds ∧ Q (srcOf d r) (enumD 0 ds) Γ
theorem w_Enum {Q : Src → List D → Env → Prop} (h : ma Γ fun r Γ1 => enk r Γ1 Q) : mEnum ma Γ Q := h
theorem w_enum {Q : Src → List D → Env → Prop} {ds : List D} (h1 : rd Γ r = some d) (h2 : itemsOf d = some ds) (h : Q (srcOf d r) (enumD 0 ds) Γ) : enk r Γ Q := ⟨_, _, h1, h2, h⟩
theorem w_Comp {Q : QE} {vs : List Nat} (h : mi Γ fun src items Γ1 => compM src mg mt me vs (fun acc Γ2 => Q (.fr (.lst acc)) Γ2) items [] Γ1) : mComp mi mg mt me vs Γ Q := h
theorem e_yes {Q : Bool → Env → Prop} (h : Q true Γ) : mYes Γ Q := h
/-! the ends -/
theorem d_val {ms : List Md} {Qd : Bool → D → List D → Prop} {ds : List D} (h1 : iosD ms Γ = ds) (h : Qd false d ds) : rtD ms Qd (.val d) Γ := by subst h1; exact h
theorem d_fr {ms : List Md} {Qd : Bool → D → List D → Prop} {ds : List D} (h1 : iosD ms Γ = ds) (h : Qd true d ds) : rtD ms Qd (.fr d) Γ := by subst h1; exact h
theorem d_pl {ms : List Md} {Qd : Bool → D → List D → Prop} {ds : List D} (h0 : Γ[i]? = some (.ow d)) (h1 : iosD ms Γ = ds) (h : Qd true d ds) : rtD ms Qd (.pl i) Γ := by subst h1; exact ⟨_, h0, h⟩
end
/-! slots that may be stored to -/
def fr (s : Sl) : Bool := freeB [s] 0
theorem i_take {b : D} {many : Int} {Q : Bool → D → List D → Prop} {E : EdT} (hb : BagD b) (h1 : 0 < many) (h2 : many < 2 ^ 256) (h : ∀ k b', 0 ≤ k → k < many → BagD b' → Q false (.int k) [b']) : takeD [b, .int many] Q E := ⟨b, many, rfl, hb, h1, h2, h⟩
theorem i_repr {d : D} {Q : Res → Prop} (h1 : okR d = true) (h : Q (.val (.str (toPy d).shown))) : reprD [d] Q := ⟨.inr (.inl h1), h⟩
theorem i_reprZ {d : D} {Q : Res → Prop} (h1 : okZ d = true) (h : Q (.val (.str (toPy d).shown))) : reprD [d] Q := ⟨.inr (.inr h1), h⟩
theorem strOk_app {a b : Str} (h1 : PyData.strOk a = true) (h2 : PyData.strOk b = true) : PyData.strOk (a ++ b) = true := by
  unfold PyData.strOk at *
  rw [show (a ++ b).cps = a.cps ++ b.cps from rfl, Array.all_append, h1, h2]
  rfl
theorem strOk_of (s : String) : PyData.strOk (Str.ofString s) = true := by
  rw [Str.ofString_eq_toList]
  unfold PyData.strOk
  rw [Array.all_eq_true']
  intro x hx
  simp only [List.mem_toArray, List.mem_map] at hx
  obtain ⟨c, _, rfl⟩ := hx
  have h := c.valid
  have : c.toNat < 1114112 := by
    have h : c.val.toNat.isValidChar := h
    show c.val.toNat < 1114112
    unfold Nat.isValidChar at h
    omega
  exact decide_eq_true this
theorem strOk_textFrom : ∀ (ts : List Str) (k : Nat) (acc : Str), (∀ t ∈ ts, PyData.strOk t = true) → PyData.strOk acc = true → PyData.strOk (textFrom k acc ts) = true
  | [], _, acc, _, h => h
  | t :: ts, k, acc, h, h2 => strOk_textFrom ts (k + 1) _ (fun x hx => h x (List.mem_cons_of_mem _ hx)) (strOk_app (strOk_app h2 (by split <;> exact strOk_of _)) (h t (List.mem_cons_self ..)))
theorem okE_strOk {x : Str} (h : PyData.strOk x = true) : okE (.str x) = true := by
  simp [okE, plain, toPy, SeqAt.shaped, PyData.canLay0, PyData.depth, h]
theorem i_eqS {x : Str} {Q : Res → Prop} (h1 : okE (.str x) = true) (h : Q (.val (.bl true))) : eqD (.str x) (.str x) Q := ⟨h1, h1, by rw [eqv_ssS, beq_self_eq_true]; exact h⟩
theorem cut1 (z : D) (r : List D) : DL.cutD (z :: r) (some 1) none = r := by
  simp [DL.cutD, HT.sIx]
theorem i_sl1 {d : D} {ds : List D} {Q : Res → Prop} (h : Q (.fr (.lst ds))) : slD (.lst (d :: ds)) (some 1) none Q := by
  show Q (.fr (.lst (DL.cutD (d :: ds) (some 1) none)))
  rw [cut1]; exact h
end DL
/-! the data layer, part 17: own classes: the rules on values -/
namespace DL
open PySem PySem.Spec PyProof.Rows L2
section
variable {X : Cx} {k : Nat} {f C p g : Addr} {fd : FuncData} {ps : List Str} {sp : Sp} {dvs : List V} {ds : List Value} {x m : Str} {pos apos p1 : Pos} {o e : Expr} {es : List Expr} {t : TA} {ta : TE} {E : XK}
theorem under_guards {A : Around} {C : Addr} {us : List Value} {kw : List (Str × Value)} : (A.under (.builtin "type.__call__" ⟨.ref C :: us, kw⟩)).guards = A.guards := by
  first
  | rfl
  | simp [Around.under, Code.weight, Code.isCreation, Code.isGuard, Code.isCaller, Code.frames, Code.isFrame, guardIds]
theorem run_makeG {pins : List (Addr × Obj)} {σ : L2.St} {H : Hp} {s : Shared} {Q : VK} {us : List Value} {vs : List V} (M : Mk X.K C f) (F : FnG X.prog X.w X.K X.mg X.base k f fd ps sp) (hg : X.A.guards = some []) (hr : Room (k + 1) X.A) (hb : Binds X.K fd ps ds) (hd : Vals dvs ds)
    (hx : Passes (L2N.CX X.prog X.w) X E) (I : Inv X pins σ H s) (r : Vals vs us)
    (h : ∀ x dx, H x = none → H dx = none → dx ≠ x → sp (.ref x :: (vs ++ dvs)) (upd (upd H dx (.own x)) x (.ins C dx [])) (fun v H2 => v = .non ∧ Q (.ref x) H2) E) :
    wpAny (model X.prog X.w) X.A (call (.ref C) us) (EP X pins σ Q) X.xe s := by
  have hq := h (s.heap.objs.size + 1) s.heap.objs.size (I.hok.fresh (Nat.le_succ _)) (I.hok.fresh (Nat.le_refl _)) (Nat.ne_of_lt (Nat.lt_succ_self _))
  have I2 := Inv.made (C := C) I
  have r2 : Vals (V.ref (s.heap.objs.size + 1) :: (vs ++ dvs)) (Value.ref (s.heap.objs.size + 1) :: (us ++ ds)) := .cons rfl (r.append hd)
  have hl : (Value.ref (s.heap.objs.size + 1) :: us ++ ds).length = ps.length := by
    have e := r2.length
    rw [F.len _ _ _ _ hq] at e
    exact e.symm
  refine wpAny_call (make_map (f := f) I.kIn M.makes M.init (beq_iff_eq.mp M.fn) (codeAny_mono (F.go _ (under_guards.trans hg) (hr.make C us []) X.stack _ _ ⟨Value.ref (s.heap.objs.size + 1) :: us, []⟩ (Value.ref (s.heap.objs.size + 1) :: (us ++ ds)) _ _ E
    (I2.env0.make C us []) (hb _ (Value.ref (s.heap.objs.size + 1) :: us) I2.kIn hl) r2 hq) fun r s' hq' => ?_))
  cases r with
  | error e => exact hx pins σ _ _ e s' I2 hq'
  | ok fl =>
    cases fl with
    | ret u =>
      obtain ⟨v, H', I3, rv, ev, q3⟩ := I2.after hq'
      subst ev
      exact ⟨rv, ⟨V.ref (s.heap.objs.size + 1), H', I3, rfl, q3⟩⟩
    | next => exact False.elim hq'
    | brk => exact False.elim hq'
    | cont => exact False.elim hq'
/-- C(..) -/
theorem pe_makeG (M : Mk X.K C f) (F : FnG X.prog X.w X.K X.mg X.base k f fd ps sp) (hgu : X.A.guards = some []) (hr : Room (k + 1) X.A) (hg : Gl X x) (hm : X.mg x = some (.ref C)) (hb : Binds X.K fd ps ds) (hd : Vals dvs ds) (hx : Passes (L2N.CX X.prog X.w) X E)
    (ha : PA X (e :: es) t) (hdb : (x == ("__debug__" : Str)) = false := by decide) (he : starEach (e :: es) X.env = (false, eval e X.env) :: starEach es X.env := by rfl) (hpl : (backTo pos (starEach es X.env)).any (·.1) = false := by rfl) :
    PE X (.Call (.Name x p1) (e :: es) [] pos) (tMake C sp dvs E t) := by
  refine ⟨fun pins s σ H Q I h => ?_⟩
  refine wpAny_Call_Name_kw (ld_glob I hg hm ?_ hdb)
  refine PySem.W.callWith_K (h₀ := X.base) I.ok.mod.kin M.kp (thn (ha.run pos pins s σ H _ I h) fun us s1 ⟨vs, H1, I1, r, q⟩ => ⟨I1.kIn, ?_⟩) he hpl
  exact run_makeG M F hgu hr hb hd hx I1 r q
theorem pe_methG0 {pl : Sem Bool} (he : PE X o ta) (c : Cls X.K C) (hm : Meth X.K C m f) (F : FnG X.prog X.w X.K X.mg X.base k f fd ps sp) (hg : X.A.guards = some []) (hr : Room k X.A) (hb : Binds X.K fd ps ds) (hd : Vals dvs ds) (hx : Passes (L2N.CX X.prog X.w) X E)
    (ht : eval (.Call (.Attribute o m apos) [] [] pos) X.env = (do
      let ov ← eval o X.env
      standAt apos.atName
      let (f, first) ← holding [ov] (getMethod ov m pl)
      callWith pos f first (backTo pos (starEach [] X.env)) (backToKw pos (keywordEach [] X.env))) := by rfl) :
    PE X (.Call (.Attribute o m apos) [] [] pos) (tMeth C m sp dvs E ta tNil) := by
  refine ⟨fun pins s σ H Q I h => ?_⟩
  refine PySem.W.methodCall_KW (pl := pl) (thn (he.run pins s σ H _ I h) fun u s1 ⟨x, H1, I1, rx, a, dx, fs, ex, ea, l, q⟩ => ?_) ht
  subst ex
  obtain rfl : u = Value.ref a := rx
  refine getmeth_ok I1 ea c hm l ?_
  exact PySem.W.callWith_K0 (first := [.ref a]) I1.kIn hm.kp (run_g (us := [.ref a]) (vs := [.ref a]) F hg hr hb hd hx I1 (.cons rfl .nil) q)
end
end DL
/-! the data layer, part 18: own classes over data -/
namespace DL
open PySem PySem.Spec PyProof.Rows L2
/-! ### fields -/
def fldD : List Str → List D → Str → Option D
  | n :: ns, d :: ds, f => if (f == n) = true then some d else fldD ns ds f
  | _, _, _ => none
def putN (f : Str) : List Str → List Str
  | [] => [f]
  | n :: ns => if n = f then n :: ns else n :: putN f ns
def putDs (f : Str) (d : D) : List Str → List D → List D
  | n :: ns, e :: ds => if n = f then d :: ds else e :: putDs f d ns ds
  | _, ds => ds ++ [d]
section
variable {K : Fg} {H : Hp}
theorem fld_at {f : Str} : ∀ {fs : List (Str × V)} {ds : List D} {d : D}, Reps K H (fs.map (·.2)) ds → fldD (fs.map (·.1)) ds f = some d → ∃ v, fs.lookup f = some v ∧ Rep K H v d
  | [], _, _, r, e => by cases r; cases e
  | (n, v) :: fs, _, d, .cons (d := d') (ds := ds) h r, e => by
    rw [List.map_cons, fldD] at e
    by_cases c : (f == n) = true
    · rw [if_pos c] at e
      cases e
      exact ⟨v, by rw [List.lookup, c], h⟩
    · rw [if_neg c] at e
      obtain ⟨w, h1, h2⟩ := fld_at r e
      have c' : (f == n) = false := by simpa using c
      exact ⟨w, by rw [List.lookup, c']; exact h1, h2⟩
theorem put_at {f : Str} {y : V} {d : D} (hy : Rep K H y d) : ∀ {fs : List (Str × V)} {ds : List D}, Reps K H (fs.map (·.2)) ds → (putF f y fs).map (·.1) = putN f (fs.map (·.1)) ∧ Reps K H ((putF f y fs).map (·.2)) (putDs f d (fs.map (·.1)) ds)
  | [], _, .nil => ⟨rfl, .cons hy .nil⟩
  | (n, v) :: fs, _, .cons (d := d') (ds := ds) h r => by
    unfold putF
    rw [List.map_cons, putN, putDs]
    by_cases c : n = f
    · rw [if_pos c, if_pos c, if_pos c]
      exact ⟨rfl, .cons hy r⟩
    · rw [if_neg c, if_neg c, if_neg c]
      obtain ⟨h1, h2⟩ := put_at hy r
      exact ⟨by rw [List.map_cons, h1], .cons h h2⟩
theorem putN_mem {f n : Str} : ∀ {ns : List Str}, n ∈ putN f ns → n = f ∨ n ∈ ns
  | [], h => by
    rcases List.mem_cons.mp h with z | z
    · exact .inl z
    · cases z
  | m :: ns, h => by
    rw [putN] at h
    split at h
    · exact .inr h
    · rcases List.mem_cons.mp h with z | z
      · exact .inr (z ▸ List.mem_cons_self)
      · rcases putN_mem z with y | y
        · exact .inl y
        · exact .inr (List.mem_cons_of_mem _ y)
theorem putN_nodup {f : Str} : ∀ {ns : List Str}, ns.Nodup → (putN f ns).Nodup
  | [], _ => by rw [putN]; simp
  | m :: ns, h => by
    obtain ⟨h1, h2⟩ := List.nodup_cons.mp h
    rw [putN]
    split
    · exact h
    · rename_i c
      refine List.nodup_cons.mpr ⟨fun z => ?_, putN_nodup h2⟩
      rcases putN_mem z with y | y
      · exact c y
      · exact h1 y
theorem dupN_putN {f : Str} {ns : List Str} (h : dupN ns = false) : dupN (putN f ns) = false := by
  unfold dupN at h ⊢
  have h1 : ns.Nodup := of_decide_eq_true (by simpa using h)
  rw [decide_eq_true (putN_nodup h1)]; rfl
theorem look_none {m : Str} : ∀ {fs : List (Str × V)}, m ∉ fs.map (·.1) → fs.lookup m = none
  | [], _ => rfl
  | (n, v) :: fs, h => by
    rw [List.map_cons, List.mem_cons, not_or] at h
    have c : (m == n) = false := by simpa using h.1
    rw [List.lookup, c]
    exact look_none h.2
end
/-! ### the readings -/
def mFld (C : Addr) (f : Str) (mo : DTE) : DTE := fun Γ Q => mo Γ fun r Γ1 => ∃ ns ds d, rd Γ1 r = some (.obj C ns ds) ∧ fldD ns ds f = some d ∧ Q (.val d) Γ1
def mSetF (C : Addr) (f : Str) (mo me : DTE) : DTS := fun D Γ => me Γ fun r Γ1 => mo Γ1 fun ro Γ2 => ∃ d i ns ds, dat r = some d ∧ ro = .pl i ∧ cont Γ2[i]? = some (.obj C ns ds) ∧ ns.length < 1000 ∧ ∃ Γ3, setC Γ2 i (.obj C (putN f ns) (putDs f d ns ds)) = some Γ3 ∧ D.nx Γ3
/-- the receiver and the arguments -/
def mSelf (C : Addr) (m : Str) (mo : DTE) (ma : DTA) : DTA := fun Γ Q => mo Γ fun r Γ1 => (∃ ns ds, rd Γ1 r = some (.obj C ns ds) ∧ m ∉ ns) ∧ ma Γ1 fun rs Γ2 => Q (r :: rs) Γ2
def mSelf1 (C : Addr) (mo : DTE) : DTA := fun Γ Q => mo Γ fun r Γ1 => (∃ ns ds, rd Γ1 r = some (.obj C ns ds)) ∧ Q [r] Γ1
def mCls (C : Addr) (ma : DTA) : DTA := fun Γ Q => ma Γ fun rs Γ1 => Q (.val (.cls C) :: rs) Γ1
def mMake (C : Addr) (ms : List Md) (sd : DSp) (ma : DTA) : DTE := fun Γ Q => ma Γ fun rs Γ1 => ∃ ds, argsD Γ1 ms rs = some ds ∧ apartB ms rs = true ∧
  sd (.obj C [] [] :: ds) (fun b d ds' => d = .non ∧ ∃ d0 r0 Γ2, ds' = d0 :: r0 ∧ putsD (mPls ms rs) r0 Γ1 = some Γ2 ∧ Q (.fr d0) Γ2) noX
def mMakeL (i : Nat) (C : Addr) (ms : List Md) (sd : DSp) (ma : DTA) : DTE := fun Γ Q => Γ[i]? = some (.sh (.cls C)) ∧ mMake C ms sd ma Γ Q
/-- isinstance(x, C) -/
def isO (C : Addr) : D → Option Bool
  | .obj C' _ _ => if C' = C then some true else none
  | .cls _ => none
  | .xcl _ _ => none
  | .sto _ => none
  | .dtl _ => none
  | .pnK _ _ => none
  | .pnT _ _ => none
  | _ => some false
def mIsO (C : Addr) (ma : DTE) : DTE := fun Γ Q => ma Γ fun r Γ1 => ∃ d b, rd Γ1 r = some d ∧ isO C d = some b ∧ Q (.val (.bl b)) Γ1
/-- x == y by the class's own == -/
def eqk (F : Bool → Bool) (Γ2 : Env) (Q : QE) : Bool → D → List D → Prop := fun b d ds' => ∃ Γ3, putsD [] ds' Γ2 = some Γ3 ∧ (Γ3 = Γ2 ∧ ∃ z, (if b = true then frOf d else .val d) = .val (.bl z) ∧ Q (.val (.bl (F z))) Γ2)
theorem eqk_in {F : Bool → Bool} {Γ2 : Env} {Q : QE} {z : Bool} (h : Q (.val (.bl (F z))) Γ2) : eqk F Γ2 Q false (.bl z) [] := ⟨Γ2, rfl, rfl, z, rfl, h⟩
def mEqO (C : Addr) (sd : DSp) (F : Bool → Bool) (ma mb : DTE) : DTE := fun Γ Q => ma Γ fun ra Γ1 => mb Γ1 fun rb Γ2 => ∃ ns ds ns' ds', dat ra = some (.obj C ns ds) ∧ dat rb = some (.obj C ns' ds') ∧
  sd [.obj C ns ds, .obj C ns' ds'] (eqk F Γ2 Q) noX
section
variable {C : Ctx} {C0 : Addr} {f m : Str} {to ta tb te : TE} {mo ma mb me : DTE} {t : TA} {mt : DTA} {ms : List Md} {sd : DSp} {E : XK}
theorem Pend.mono2 {K : Fg} {O O' : List Addr} {σ : L2.St} {H H' : Hp} {v : V} {r : Res} (e : Same (hide O H) (hide O' H')) (h : Pend K O σ H v r) : Pend K O' σ H' v r := by
  cases r with
  | val d => exact Rep.mono e h
  | fr d => exact Rep.mono e h
  | pl i => exact h
  | np a ds => exact Rep.mono e h
  | hd a => exact h
theorem Pends.mono2 {K : Fg} {O O' : List Addr} {σ : L2.St} {H H' : Hp} (e : Same (hide O H) (hide O' H')) : ∀ {vs : List V} {rs : List Res}, Pends K O σ H vs rs → Pends K O' σ H' vs rs
  | _, _, .nil => .nil
  | _, _, .cons h t => .cons (h.mono2 e) (Pends.mono2 e t)
theorem sim_fld {K : Fg} (hK : K = C.K) (cl : Cls K C0) (na : NoAttr K C0 f) (ho : SimE C to mo) : SimE C (tFld K to f) (mFld C0 f mo) := fun Γ O σ H Qd Q R h k => by
  refine ho Γ O σ H _ _ R h fun r Γ1 x H1 R1 e1 q1 => ?_
  obtain ⟨ns, ds, d, h1, h2, q⟩ := q1
  obtain ⟨a, dx, fs, rfl, hH, rfl, rr⟩ := (R1.pend.b2 R1.rel h1).obj
  obtain ⟨v, hv, rv⟩ := fld_at rr h2
  exact ⟨a, C0, dx, fs, v, rfl, hH, cl, na, hv, k (.val d) Γ1 v H1 ⟨R1.rel, rv⟩ (.val e1.1) q⟩
theorem sim_setF {K : Fg} (hK : K = C.K) (cl : Cls K C0) (na : NoAttr K C0 f) (ho : SimE C to mo) (he : SimE C te me) : SimS C (sFld K to te f) (mSetF C0 f mo me) := fun Γ O σ H D Dd R h L => by
  refine he Γ O σ H _ _ R h fun r Γ1 y H1 R1 e1 q1 => ?_
  refine ho Γ1 O σ H1 _ _ R1.rel q1 fun ro Γ2 x H2 R2 e2 q2 => ?_
  obtain ⟨d, i, ns, ds, hd, rfl, hc, hl, Γ3, hs, q⟩ := q2
  obtain ⟨l, o, rfl, hl2, ho2⟩ := place_at R2.rel hs R2.2 hc
  cases ho2 with
  | obj hn hdup rr =>
    rename_i dx fs
    subst hn
    have ry : Rep C.K (hide O H2) y d := (R1.pend.mono e2.1).dat hd
    obtain ⟨p1, p2⟩ := put_at (f := f) ry rr
    obtain ⟨R3, e3⟩ := set_relO (o := .ins C0 dx (putF f y fs)) R2.rel hs R2.2 (.obj p1 (dupN_putN hdup) p2)
    exact ⟨l, C0, dx, fs, rfl, hl2, cl, na, by rw [List.length_map] at hl; exact hl, L.nx Γ3 O σ _ R3 q⟩
theorem sim_meth (ho : SimE C to mo) (ha : SimA C t mt) : SimE C (tMeth C0 m (spD C.K ms sd) [] E to t) (mCall ms sd (mSelf C0 m mo mt)) := fun Γ O σ H Qd Q R h k => by
  refine ho Γ O σ H _ _ R h fun r Γ1 x H1 R1 e1 q1 => ?_
  obtain ⟨⟨ns, ds0, h1, h2⟩, q1⟩ := q1
  obtain ⟨a, dx, fs, rfl, hH, rfl, rr⟩ := (R1.pend.b2 R1.rel h1).obj
  refine ⟨a, dx, fs, rfl, hH, look_none h2, ?_⟩
  refine ha Γ1 O σ H1 _ _ R1.rel q1 fun rs Γ2 vs H2 R2 p2 e2 q2 => ?_
  obtain ⟨ds, hd, hap, hsd⟩ := q2
  rw [List.append_nil]
  exact call_core (rs := r :: rs) R2 (.cons (R1.pend.mono e2) p2) hd hap hsd (fun r' Γ' v H' r1 se q => k r' Γ' v H' r1 (.after (L2.Same.trans e1.1 e2) se) q) fun _ _ _ _ _ _ _ _ _ _ z => z.elim
/-- the arguments at a heap with one new owned object more -/
theorem ArgsOk.lift {K : Fg} {O O' : List Addr} {H H' : Hp} {x : Addr} (e : Same (hide O H) (hide O' H')) (kp : ∀ l o, H l = some o → H' l = some o) (sb : ∀ a ∈ O, a ∈ O') (hx : H x = none) (pb : ∀ a, Pv H' a → Pv H a) {Ms : List Addr} {ms : List Md} {vs : List V} {ds : List D} (A : ArgsOk K O H Ms ms vs ds) : ArgsOk K O' H' (x :: Ms) ms vs ds := by
  induction A with
  | nil => exact .nil
  | S h _ ih => exact .S (h.mono e) ih
  | B h _ ih =>
    refine .B ?_ ih
    rcases h with h | ⟨l, o, h1, h2, h3, h4⟩
    · exact .inl (h.mono e)
    · exact .inr ⟨l, o, h1, kp l o h2, ⟨fun z => (List.mem_cons.mp z).elim (fun z => by rw [z, hx] at h2; cases h2) h3.1, fun z => h3.2 (pb l z)⟩, h4.mono e⟩
  | M h1 h2 h3 _ ih => exact .M (sb _ h1) (kp _ _ h2) (h3.mono e) ih
theorem sim_make (ha : SimA C t mt) : SimE C (tMake C0 (spD C.K (.M :: ms) sd) [] E t) (mMake C0 ms sd mt) := fun Γ O σ H Qd Q R h k => by
  refine ha Γ O σ H _ _ R h fun rs Γ1 vs H1 R1 p1 e1 q1 => ?_
  obtain ⟨ds, hd, hap, hsd⟩ := q1
  intro x dx hx hdx hne
  rw [List.append_nil]
  have hx' : (upd H1 dx (.own x)) x = none := by rw [upd_ne (Ne.symm hne)]; exact hx
  have R1' : RelO C Γ1 O σ (upd H1 dx (.own x)) := R1.alloc hdx
  have R2 : RelO C Γ1 (x :: O) σ (upd (upd H1 dx (.own x)) x (.ins C0 dx [])) := R1'.allocO hx'
  have eS : Same (hide O H1) (hide (x :: O) (upd (upd H1 dx (.own x)) x (.ins C0 dx []))) := L2.Same.trans (hide_new hdx rfl) (hide_newO hx' rfl)
  have kp : ∀ l o, H1 l = some o → (upd (upd H1 dx (.own x)) x (.ins C0 dx [])) l = some o := fun l o e => by
    rw [upd_ne (ne_of_none e hx), upd_ne (ne_of_none e hdx)]; exact e
  unfold apartB at hap
  rw [Bool.and_eq_true, Bool.and_eq_true] at hap
  have nd : (mPls ms rs).Nodup := of_decide_eq_true hap.1.1
  have hb : ∀ i ∈ bPls ms rs, i ∉ mPls ms rs := fun i hi => of_decide_eq_true (List.all_eq_true.mp hap.1.2 i hi)
  obtain ⟨ds0, S, hd0, rfl, hst⟩ := argsD_split hd
  obtain ⟨hc, hmu⟩ := chg_of R1 p1 hd0
  have hargs := (args_of R1 hc hmu p1 hd0 hb).lift eS kp (fun a ha => List.mem_cons_of_mem _ ha) hx fun a z => Pv_upd rfl (Pv_upd rfl z)
  have ndA := chg_nodup R1 hc hmu nd
  have xO : x ∉ O := R1.notin hx
  have xA : x ∉ mAddrs (strip ms) vs := fun z => by
    obtain ⟨i, hi, e⟩ := hc.at z
    exact xO (R1.mutIn (.inl ⟨hmu i hi, e⟩))
  have hS0 : StG ms C.K (x :: O) (upd (upd H1 dx (.own x)) x (.ins C0 dx [])) S := fun hg => by
    obtain ⟨i0, hi0, _⟩ := stOf_at (hst hg)
    exact (R2.sl i0 _ hi0).2.2
  refine ⟨x :: O, .obj C0 [] [] :: ds0, S, _, noX, .M List.mem_cons_self upd_same (.obj rfl rfl .nil) hargs, R2.al, ⟨List.nodup_cons.mpr ⟨xA, ndA⟩, R2.pv.here⟩, hS0, hsd, fun v H' O' b d ds' S' post hms hS' hres hq => ?_, fun _ _ _ _ _ _ _ _ _ _ _ _ _ z => z.elim⟩
  obtain ⟨rfl, d0, r0, Γ2, e0, hput, hq⟩ := hq
  have hv : v = .non := by
    cases b with
    | true => rcases hres with ⟨_, _, _, _, _, _, z⟩ | ⟨_, _, _, _, _, _, z, _⟩ <;> cases z
    | false => have z : Rep C.K (hide O' H') v .non := hres; cases z; rfl
  refine ⟨hv, ?_⟩
  cases hms with
  | M hox hoo hms =>
    rename_i o' d1 ds1
    have e0 : d1 :: (ds1 ++ stoL ms S') = d0 :: r0 := e0
    cases e0
    have Rx := R2.updFree (p := x) (o := o') List.mem_cons_self (R1.fresh0 hx) (fun i m => xO (R1.mutIn m)) (fun q hq z => xO (z ▸ (R1.uu q hq).2.1)) hoo.tk
    have nrx : ∀ u, (upd (upd H1 dx (.own x)) x (.ins C0 dx [])) x = some u → rootO u = false := fun u e => by rw [upd_same] at e; cases e; rfl
    have post' : PostP (PstG ms (upd (upd (upd H1 dx (.own x)) x (.ins C0 dx [])) x o')) C.K (x :: O) (upd (upd (upd H1 dx (.own x)) x (.ins C0 dx [])) x o') (strip ms) vs H' O' := by
      refine ⟨post.sub, fun a ha => ?_, post.al, fun a o e ha np => ?_, ⟨post.pv.ex, fun a ha => ?_, fun a ha => ?_⟩, fun a ha he => ?_⟩
      · by_cases hax : a = x
        · exact .inl (hax ▸ List.mem_cons_self)
        · rcases post.new a ha with z | z
          · exact .inl z
          · exact .inr (by rw [upd_ne hax]; exact z)
      · by_cases hax : a = x
        · subst hax
          rw [upd_same] at e
          cases e
          exact hox
        · rw [upd_ne hax] at e
          exact post.fr a o e (fun z => (List.mem_cons.mp z).elim hax ha) fun z => np (PstG_mono (fun b zb => Pv_of_upd nrx zb) (show PstG ms _ a from z))
      · rcases post.pv.nw a ha with z | z
        · have hax : a ≠ x := fun e => by rw [e, upd_same] at z; cases z
          exact .inl (by rw [upd_ne hax]; exact z)
        · exact .inr (Pv_of_upd nrx z)
      · exact Rx.pv.here.h0 a ha
      · have hax : a ≠ x := fun e => by
          have := ha.pv
          rw [e] at this
          exact Rx.npv List.mem_cons_self this
        refine post.pc a (show PstG ms _ a from PstG_mono (fun b zb => Pv_upd hoo.nr zb) ha) ?_
        rw [upd_ne hax] at he
        exact he
    have p1' : Pends C.K (x :: O) σ (upd (upd (upd H1 dx (.own x)) x (.ins C0 dx [])) x o') vs rs := p1.mono2 (by rw [hide_mut List.mem_cons_self (R2.nr List.mem_cons_self) hoo.nr]; exact eS)
    obtain ⟨R3, e3, mO3⟩ := rel_call Rx p1' hd0 hst nd post' hms hS' hput
    rw [hide_mut List.mem_cons_self (R2.nr List.mem_cons_self) hoo.nr] at e3
    have mO : ∀ i a, MutAt Γ2 σ i a → a ∈ O := fun i a m => rel_mut R1 hd0 p1 nd hput hms m
    have uO : ∀ q ∈ C.U, q.1 ∈ O := fun q hq => (R1.uu q hq).2.1
    obtain ⟨R4, e4⟩ := R3.shrink (O := O) (fun a ha => post.sub a (List.mem_cons_of_mem _ ha)) mO uO R1.oo
    obtain ⟨R5, e5⟩ := R3.shrink (O := x :: O) post.sub (fun i a m => List.mem_cons_of_mem _ (mO i a m)) (fun q hq => List.mem_cons_of_mem _ (uO q hq)) fun a ha => List.mem_cons_of_mem _ (R1.oo a ha)
    exact k (.fr d0) Γ2 _ H' ⟨R4, x, o', rfl, hox, xO, R1.fresh0 hx, hoo.mono e5, R5⟩ (.fr (L2.Same.trans e1 (L2.Same.trans eS (L2.Same.trans e3 e5)))) hq
end
end DL
/-! the data layer, part 19: own classes: the rules for the printed derivations -/
namespace DL
open PySem PySem.Spec PyProof.Rows L2
/-- what of the text an own class has, for isinstance -/
structure InsD (K : Fg) (C : Addr) : Prop where
  cl : Cls K C
  ha : PySem.W.findIn K (.ref C) "__class__" = some (some (.builtin "object.__class__"))
  hn : PySem.W.specialIn K (.builtin "object.__class__") "__get__" = some (some (.builtin "getset_descriptor.__get__"))
  htk : PySem.W.takesIn K (.builtin "object.__class__") = some true
  hm : PySem.W.mroIn K C (.type "object") = some true
  t1 : PySem.W.kitOne K (.type "NoneType") (.ref C) = some false
  t2 : PySem.W.kitOne K (.type "bool") (.ref C) = some false
  t3 : PySem.W.kitOne K (.type "int") (.ref C) = some false
  t4 : PySem.W.kitOne K (.type "str") (.ref C) = some false
  t5 : PySem.W.kitOne K (.type "list") (.ref C) = some false
  t6 : PySem.W.kitOne K (.type "tuple") (.ref C) = some false
  t7 : PySem.W.kitOne K (.type "dict") (.ref C) = some false
section
variable {X : Cx} {C : Ctx} {C0 : Addr} {k : Nat} {g p : Addr} {fd : FuncData} {ps : List Str} {ms : List Md} {sd : DSp} {ta tb to te : TE} {ma mb mo me : DTE} {a b o e : Expr} {es : List Expr} {t : TA} {mt : DTA} {pos apos p1 p2 : Pos} {f m x : Str} {st : Stmt}
theorem de_fld (cl : Cls X.K C0) (na : NoAttr X.K C0 f) (h : DE X C e te me) (hb : attributeBase e f X.env (eval e X.env) = eval e X.env := by rfl) {K0 : Fg} (hK0 : X.K = K0 := by rfl) (hK : K0 = C.K := by rfl) : DE X C (.Attribute e f pos) (tFld K0 te f) (mFld C0 f me) := by
  subst hK0
  exact ⟨pe_fld h.pe hb, sim_fld hK cl na h.sim⟩
theorem ds_fld (cl : Cls X.K C0) (na : NoAttr X.K C0 f) (ho : DE X C o to mo) (he : DE X C e te me) (hs : swapsWith e (some (.Attribute o f apos)) pos.line X.env = pure false := by rfl) {K0 : Fg} (hK0 : X.K = K0 := by rfl) (hK : K0 = C.K := by rfl) :
    DS X C (.Assign [.Attribute o f apos] e pos) (sFld K0 to te f) (mSetF C0 f mo me) := by
  subst hK0
  exact ⟨ps_fld ho.pe he.pe hs, sim_setF hK cl na ho.sim he.sim⟩
theorem de_meth0 {pl : Sem Bool} (c : Cls X.K C0) (hm : Meth X.K C0 m g) (F : FnG X.prog X.w X.K X.mg X.base k g fd ps (spD X.K ms sd)) (hg : X.A.guards = some []) (hr : Room k X.A) (hb : Binds X.K fd ps []) (ho : DE X C o to mo) {K0 : Fg} (hK0 : X.K = K0 := by rfl) (hK : K0 = C.K := by rfl)
    (ht : eval (.Call (.Attribute o m apos) [] [] pos) X.env = (do
      let ov ← eval o X.env
      standAt apos.atName
      let (f, first) ← holding [ov] (getMethod ov m pl)
      callWith pos f first (backTo pos (starEach [] X.env)) (backToKw pos (keywordEach [] X.env))) := by first | rfl | exact mcall_of (abase_call rfl) fun _ => rfl) :
    DE X C (.Call (.Attribute o m apos) [] [] pos) (tMeth C0 m (spD K0 ms sd) [] E0 to tNil) (mCall ms sd (mSelf C0 m mo mNil)) := by
  subst hK0
  exact ⟨pe_methG0 ho.pe c hm F hg hr hb .nil passL ht, by rw [hK]; exact sim_meth ho.sim sim_nil⟩
theorem de_make (M : Mk X.K C0 g) (F : FnG X.prog X.w X.K X.mg X.base k g fd ps (spD X.K (.M :: ms) sd)) (hg : X.A.guards = some []) (hr : Room (k + 1) X.A) (hgl : Gl X x) (hm : X.mg x = some (.ref C0)) (hb : Binds X.K fd ps []) (ha : DA X C (e :: es) t mt) {K0 : Fg} (hK0 : X.K = K0 := by rfl) (hK : K0 = C.K := by rfl)
    (hdb : (x == ("__debug__" : Str)) = false := by decide) (he : starEach (e :: es) X.env = (false, eval e X.env) :: starEach es X.env := by rfl) (hpl : (backTo pos (starEach es X.env)).any (·.1) = false := by rfl) :
    DE X C (.Call (.Name x p1) (e :: es) [] pos) (tMake C0 (spD K0 (.M :: ms) sd) [] E0 t) (mMake C0 ms sd mt) := by
  subst hK0
  exact ⟨pe_makeG M F hg hr hgl hm hb .nil passL ha.pa hdb he hpl, by rw [hK]; exact sim_make ha.sim⟩
/-- a class of the module as a value -/
theorem pe_cls (hg : Gl X x) (hm : X.mg x = some (.ref C0)) (hdb : (x == ("__debug__" : Str)) = false := by decide) : PE X (.Name x p2) (tC (.ref C0)) := pe_glob hg hm rfl hdb
end
end DL
/-! the data layer, part 20: one step of a reading at a time: own classes -/
namespace DL
open PySem PySem.Spec PyProof.Rows L2
section
variable {Γ Γ' : Env} {Q : QE} {i : Nat} {d e : D} {ma mb mo me : DTE} {mr : DTA} {r r2 : Res} {rs : List Res} {ns : List Str} {ds : List D} {b : Bool} {C : Addr} {f m : Str}
def fdk (C : Addr) (f : Str) (r : Res) (Γ : Env) (Q : QE) : Prop := ∃ ns ds d, rd Γ r = some (.obj C ns ds) ∧ fldD ns ds f = some d ∧ Q (.val d) Γ
theorem e_Fld (h : mo Γ fun r Γ1 => fdk C f r Γ1 Q) : mFld C f mo Γ Q := h
theorem e_fld (h1 : rd Γ r = some (.obj C ns ds)) (h2 : fldD ns ds f = some d) (h : Q (.val d) Γ) : fdk C f r Γ Q := ⟨_, _, _, h1, h2, h⟩
theorem fld_1 : fldD (f :: ns) (d :: ds) f = some d := by rw [fldD, beq_self_eq_true, if_pos rfl]
theorem fld_2 {g : Str} (h : (f == g) = false) : fldD (g :: f :: ns) (e :: d :: ds) f = some d := by rw [fldD, h, if_neg Bool.false_ne_true, fld_1]
def sfk (C : Addr) (f : Str) (r ro : Res) (Γ : Env) (nx : Env → Prop) : Prop := ∃ d i ns ds, dat r = some d ∧ ro = .pl i ∧ cont Γ[i]? = some (.obj C ns ds) ∧ ns.length < 1000 ∧ ∃ Γ3, setC Γ i (.obj C (putN f ns) (putDs f d ns ds)) = some Γ3 ∧ nx Γ3
theorem s_SetF {nx bk ct : Env → Prop} {rt : Res → Env → Prop} (h : me Γ fun r Γ1 => mo Γ1 fun ro Γ2 => sfk C f r ro Γ2 nx) : mSetF C f mo me (.mk nx rt bk ct) Γ := h
theorem s_setF {nx : Env → Prop} {ns2 : List Str} {ds2 : List D} {Γ1 : Env} (h1 : dat r = some d) (h2 : cont Γ[i]? = some (.obj C ns ds)) (h3 : ns.length < 1000) (h4 : putN f ns = ns2) (h5 : putDs f d ns ds = ds2) (h6 : setC Γ i (.obj C ns2 ds2) = some Γ1) (h7 : Γ1 = Γ') (h : nx Γ') : sfk C f r (.pl i) Γ nx :=
  ⟨d, i, ns, ds, h1, rfl, h2, h3, Γ1, by rw [h4, h5]; exact h6, by rw [h7]; exact h⟩
def slfk (C : Addr) (m : Str) (r : Res) (ma : DTA) (Γ : Env) (Q : List Res → Env → Prop) : Prop := (∃ ns ds, rd Γ r = some (.obj C ns ds) ∧ m ∉ ns) ∧ ma Γ fun rs Γ2 => Q (r :: rs) Γ2
theorem e_Self {Q : List Res → Env → Prop} (h : mo Γ fun r Γ1 => slfk C m r mr Γ1 Q) : mSelf C m mo mr Γ Q := h
theorem e_self {Q : List Res → Env → Prop} (h1 : rd Γ r = some (.obj C ns ds)) (h2 : m ∉ ns) (h : mr Γ fun rs Γ2 => Q (r :: rs) Γ2) : slfk C m r mr Γ Q := ⟨⟨_, _, h1, h2⟩, h⟩
def slf1 (C : Addr) (r : Res) (Γ : Env) (Q : List Res → Env → Prop) : Prop := (∃ ns ds, rd Γ r = some (.obj C ns ds)) ∧ Q [r] Γ
theorem e_Self1 {Q : List Res → Env → Prop} (h : mo Γ fun r Γ1 => slf1 C r Γ1 Q) : mSelf1 C mo Γ Q := h
theorem e_self1 {Q : List Res → Env → Prop} (h1 : rd Γ r = some (.obj C ns ds)) (h : Q [r] Γ) : slf1 C r Γ Q := ⟨⟨_, _, h1⟩, h⟩
theorem e_Cls {Q : List Res → Env → Prop} (h : mr Γ fun rs Γ1 => Q (.val (.cls C) :: rs) Γ1) : mCls C mr Γ Q := h
def mkk (C : Addr) (ms : List Md) (sd : DSp) (Γ1 : Env) (rs : List Res) (Q : QE) : Prop := ∃ ds, argsD Γ1 ms rs = some ds ∧ apartB ms rs = true ∧ sd (.obj C [] [] :: ds) (fun b d ds' => d = .non ∧ ∃ d0 r0 Γ2, ds' = d0 :: r0 ∧ putsD (mPls ms rs) r0 Γ1 = some Γ2 ∧ Q (.fr d0) Γ2) noX
def mak (is : List Nat) (Γ1 : Env) (Q : QE) : Bool → D → List D → Prop := fun b d ds' => d = .non ∧ ∃ d0 r0 Γ2, ds' = d0 :: r0 ∧ putsD is r0 Γ1 = some Γ2 ∧ Q (.fr d0) Γ2
theorem e_Make {ms : List Md} {sd : DSp} (h : mr Γ fun rs Γ1 => mkk C ms sd Γ1 rs Q) : mMake C ms sd mr Γ Q := h
theorem e_MakeL {ms : List Md} {sd : DSp} (h1 : Γ[i]? = some (.sh (.cls C))) (h : mr Γ fun rs Γ1 => mkk C ms sd Γ1 rs Q) : mMakeL i C ms sd mr Γ Q := ⟨h1, h⟩
theorem e_make {ms : List Md} {sd : DSp} {is : List Nat} (h1 : argsD Γ ms rs = some ds) (h2 : apartB ms rs = true) (h3 : mPls ms rs = is) (h : sd (.obj C [] [] :: ds) (mak is Γ Q) noX) : mkk C ms sd Γ rs Q := ⟨_, h1, h2, by subst h3; exact h⟩
theorem e_mak {is : List Nat} {Γ1 : Env} (h1 : putsD is ds Γ = some Γ1) (h2 : Γ1 = Γ') (h : Q (.fr d) Γ') : mak is Γ Q b .non (d :: ds) := ⟨rfl, d, ds, Γ1, rfl, h1, by rw [h2]; exact h⟩
def iok (C : Addr) (r : Res) (Γ : Env) (Q : QE) : Prop := ∃ d b, rd Γ r = some d ∧ isO C d = some b ∧ Q (.val (.bl b)) Γ
theorem e_IsO (h : ma Γ fun r Γ1 => iok C r Γ1 Q) : mIsO C ma Γ Q := h
theorem e_isO (h1 : rd Γ r = some d) (h2 : isO C d = some b) (h : Q (.val (.bl b)) Γ) : iok C r Γ Q := ⟨_, _, h1, h2, h⟩
theorem isO_self : isO C (.obj C ns ds) = some true := by show (if C = C then some true else none) = some true; rw [if_pos rfl]
def eok (C : Addr) (sd : DSp) (F : Bool → Bool) (ra rb : Res) (Γ2 : Env) (Q : QE) : Prop := ∃ ns ds ns' ds', dat ra = some (.obj C ns ds) ∧ dat rb = some (.obj C ns' ds') ∧ sd [.obj C ns ds, .obj C ns' ds'] (eqk F Γ2 Q) noX
theorem e_EqO {sd : DSp} {F : Bool → Bool} (h : ma Γ fun ra Γ1 => mb Γ1 fun rb Γ2 => eok C sd F ra rb Γ2 Q) : mEqO C sd F ma mb Γ Q := h
theorem e_eqO {sd : DSp} {F : Bool → Bool} {ns' : List Str} {ds' : List D} (h1 : dat r = some (.obj C ns ds)) (h2 : dat r2 = some (.obj C ns' ds')) (h : sd [.obj C ns ds, .obj C ns' ds'] (eqk F Γ Q) noX) : eok C sd F r r2 Γ Q := ⟨_, _, _, _, h1, h2, h⟩
theorem e_eqk {F : Bool → Bool} {z : Bool} (h : Q (.val (.bl (F z))) Γ) : eqk F Γ Q false (.bl z) [] := eqk_in h
end
theorem i_powN {i j : Int} {n : Nat} {Q : Res → Prop} (hj : j.toNat = n) (h1 : PowOk i j) (h : Q (.val (.int (i ^ n)))) : powD (.int i) (.int j) Q := ⟨h1, by rw [hj]; exact h⟩
theorem i_eqT {i j : List Int} {Q : Res → Prop} (h : Q (.val (.bl (decide (i = j))))) : eqD (.tup (i.map D.int)) (.tup (j.map D.int)) Q := ⟨okE_tints _, okE_tints _, by rw [eqv_tints]; exact h⟩
theorem i_neT {i j : List Int} {Q : Res → Prop} (h : Q (.val (.bl (!decide (i = j))))) : neD (.tup (i.map D.int)) (.tup (j.map D.int)) Q := ⟨okE_tints _, okE_tints _, by rw [eqv_tints]; exact h⟩
theorem i_neB {i j : Bool} {Q : Res → Prop} (h : Q (.val (.bl (!decide (i = j))))) : neD (.bl i) (.bl j) Q := ⟨okE_bl _, okE_bl _, by rw [eqv_bl]; exact h⟩
/-- a ring of these ranks -/
abbrev ringD (C : Addr) (l : List Int) : D := .obj C ["rank_list"] [.lst (l.map D.int)]
end DL
namespace DL
open PySem PySem.Spec PyProof.Rows L2
/-! data that are equal to themselves and print well -/
mutual
def niceD (k : Nat) : D → Bool
  | .int i => decide (i.natAbs < 2 ^ k)
  | .bl _ => true
  | .non => true
  | .lst ds => nicesD k ds
  | .tup ds => nicesD k ds
  | .str x => PyData.strOk x
  | _ => false
def nicesD (k : Nat) : List D → Bool
  | [] => true
  | d :: ds => niceD k d && nicesD k ds
end
mutual
def wtD (k : Nat) : D → Nat
  | .int _ => k + 1
  | .lst ds => 4 + wtsD k ds
  | .tup ds => 4 + wtsD k ds
  | .str x => 10 * x.length + 5
  | _ => 5
def wtsD (k : Nat) : List D → Nat
  | [] => 0
  | d :: ds => wtD k d + 2 + wtsD k ds
end
theorem log2_nice {i : Int} {k : Nat} (hk : 0 < k) (h : i.natAbs < 2 ^ k) : i.natAbs.log2 < k := by
  by_cases h0 : i.natAbs = 0
  · rw [h0, show Nat.log2 0 = 0 from by decide]; exact hk
  · exact (Nat.log2_lt h0).mpr h
theorem join_len (sep : Str) : ∀ ts : List Str, (Str.join sep ts).length ≤ (ts.map (·.length)).sum + sep.length * ts.length
  | [] => Nat.zero_le _
  | [x] => by
    show x.length ≤ x.length + 0 + sep.length * 1
    omega
  | x :: y :: r => by
    have h := join_len sep (y :: r)
    show (x ++ sep ++ Str.join sep (y :: r)).length ≤ _
    rw [strLen_append, strLen_append]
    simp only [List.map_cons, List.sum_cons, List.length_cons] at h ⊢
    rw [Nat.mul_add sep.length (r.length + 1) 1]
    omega
theorem strOk_join (sep : String) : ∀ ts : List Str, (∀ t ∈ ts, PyData.strOk t = true) → PyData.strOk (Str.join sep ts) = true
  | [], _ => by unfold Str.join; decide +kernel
  | [x], h => h x (List.mem_cons_self ..)
  | x :: y :: r, h => by
    show PyData.strOk (x ++ sep ++ Str.join sep (y :: r)) = true
    exact strOk_app (strOk_app (h x (List.mem_cons_self ..)) (strOk_of _)) (strOk_join sep (y :: r) fun t ht => h t (List.mem_cons_of_mem _ ht))
theorem strOk_mem {x : Str} : PyData.strOk x = true ↔ ∀ c ∈ x.cps.toList, c < 1114112 := by
  unfold PyData.strOk
  rw [Array.all_eq_true']
  constructor
  · intro h c hc
    exact of_decide_eq_true (h c (Array.mem_toList_iff.mp hc))
  · intro h c hc
    exact decide_eq_true (h c (Array.mem_toList_iff.mpr hc))
theorem char_lt (c : Char) : c.toNat < 1114112 := by
  have h : c.val.toNat.isValidChar := c.valid
  show c.val.toNat < 1114112
  unfold Nat.isValidChar at h
  omega
theorem reprChar_lt (q c : Nat) (hc : c < 1114112) : ∀ d ∈ Builtin.Str.reprChar q c, d < 1114112 := by
  have hx : ∀ w : Nat, ∀ d ∈ List.replicate (w - ((Nat.toDigits 16 c).map Char.toNat).length) 48 ++ (Nat.toDigits 16 c).map Char.toNat, d < 1114112 := fun w d hd => by
    rcases List.mem_append.mp hd with h | h
    · rw [(List.mem_replicate.mp h).2]; decide
    · obtain ⟨ch, _, rfl⟩ := List.mem_map.mp h
      exact char_lt ch
  unfold Builtin.Str.reprChar
  intro d hd
  simp only at hd
  repeat' split at hd
  all_goals simp only [List.mem_append, List.mem_cons, List.not_mem_nil, or_false] at hd
  all_goals first | omega | (rcases hd with hd | hd <;> first | omega | exact hx 2 d (List.mem_append.mpr hd) | exact hx 4 d (List.mem_append.mpr hd) | exact hx 8 d (List.mem_append.mpr hd))
theorem foldl_lt (q : Nat) : ∀ (l : List Nat) (acc : Array Nat), (∀ c ∈ l, c < 1114112) → (∀ c ∈ acc.toList, c < 1114112) → ∀ c ∈ (l.foldl (fun out c => out ++ (Builtin.Str.reprChar q c).toArray) acc).toList, c < 1114112
  | [], acc, _, h => h
  | x :: l, acc, hl, h => by
    rw [List.foldl_cons]
    refine foldl_lt q l _ (fun c hc => hl c (List.mem_cons_of_mem _ hc)) fun c hc => ?_
    rw [Array.toList_append, List.mem_append] at hc
    rcases hc with hc | hc
    · exact h c hc
    · exact reprChar_lt q x (hl x (List.mem_cons_self ..)) c hc
theorem strOk_repr {x : Str} (h : PyData.strOk x = true) : PyData.strOk (reprText x) = true := by
  rw [strOk_mem] at h ⊢
  unfold reprText
  show ∀ c ∈ ((x.cps.foldl (fun out c => out ++ (Builtin.Str.reprChar (reprQuote x) c).toArray) #[reprQuote x]).push (reprQuote x)).toList, c < 1114112
  have hq : reprQuote x < 1114112 := by unfold reprQuote; split <;> decide
  intro c hc
  rw [Array.toList_push, List.mem_append, ← Array.foldl_toList] at hc
  rcases hc with hc | hc
  · exact foldl_lt _ _ _ h (fun c hc => by rw [List.mem_singleton.mp hc]; exact hq) c hc
  · rw [List.mem_singleton.mp hc]; exact hq
section
variable {k : Nat} (hk0 : 0 < k) (hk : k ≤ 1920)
include hk0 hk
mutual
theorem nice_ok : ∀ d : D, niceD k d = true → plain d = true ∧ (toPy d).canLay0 = true ∧ (toPy d).showable = true ∧ (toPy d).hasDict = false ∧ (toPy d).eqv (toPy d) = true ∧ PyData.strOk (toPy d).shown = true ∧ (toPy d).shown.length ≤ wtD k d
  | .non, _ => by refine ⟨rfl, rfl, rfl, rfl, rfl, strOk_of _, ?_⟩; simp only [toPy, PyData.shown, wtD]; decide
  | .bl b, _ => by
    refine ⟨rfl, rfl, rfl, rfl, ?_, ?_, ?_⟩
    · simp [toPy, PyData.eqv]
    · cases b <;> exact strOk_of _
    · simp only [toPy, PyData.shown, wtD]; cases b <;> decide
  | .int i, h => by
    rw [niceD, decide_eq_true_eq] at h
    have hl := log2_nice hk0 h
    refine ⟨rfl, rfl, ?_, rfl, ?_, ?_, ?_⟩
    · rw [toPy, PyData.showable]; exact decide_eq_true (by omega)
    · simp [toPy, PyData.eqv]
    · rw [toPy, PyData.shown]; exact strOk_of _
    · rw [toPy, PyData.shown, wtD]
      have := int_text_length_le hk0 hl
      rw [Str_len]; omega
  | .lst ds, h => by
    rw [niceD] at h
    obtain ⟨h1, h2, h3, h4, h5, h6, h7⟩ := nices_ok ds h
    refine ⟨by rw [DL.plain]; exact h1, by rw [toPy, PyData.canLay0]; exact h2, by rw [toPy, PyData.showable]; exact h3, by rw [toPy, PyData.hasDict]; exact h4, by rw [toPy, PyData.eqv]; exact h5, ?_, ?_⟩
    · rw [toPy, PyData.shown]
      exact strOk_app (strOk_textFrom _ _ _ h6 (strOk_of _)) (strOk_of _)
    · rw [toPy, PyData.shown, wtD]
      have := listText_len_le (PyData.shownAll (toPys ds))
      omega
  | .tup ds, h => by
    rw [niceD] at h
    obtain ⟨h1, h2, h3, h4, h5, h6, h7⟩ := nices_ok ds h
    refine ⟨by rw [DL.plain]; exact h1, by rw [toPy, PyData.canLay0]; exact h2, by rw [toPy, PyData.showable]; exact h3, by rw [toPy, PyData.hasDict]; exact h4, by rw [toPy, PyData.eqv]; exact h5, ?_, ?_⟩
    · rw [toPy, PyData.shown]
      unfold tupleText
      refine strOk_app (strOk_app (strOk_of _) (strOk_join _ _ h6)) ?_
      split <;> exact strOk_of _
    · rw [toPy, PyData.shown, wtD]
      unfold tupleText
      rw [strLen_append, strLen_append]
      have h8 := join_len ", " (PyData.shownAll (toPys ds))
      have h9 : (", " : Str).length = 2 := by decide
      rw [h9] at h8
      have h10 : ("(" : Str).length = 1 := by decide
      have h11 : ((if (PyData.shownAll (toPys ds)).length == 1 then ",)" else ")" : String) : Str).length ≤ 2 := by split <;> decide
      omega
  | .str x, h => by
    rw [niceD] at h
    refine ⟨rfl, by rw [toPy, PyData.canLay0]; exact h, rfl, rfl, ?_, ?_, ?_⟩
    · rw [toPy, PyData.eqv]; exact beq_self_eq_true x
    · rw [toPy, PyData.shown]; exact strOk_repr h
    · rw [toPy, PyData.shown, wtD]
      have := StrLaws.reprText_len x fun c hc => Nat.lt_trans (strOk_mem.mp h c hc) (by decide)
      omega
  | .scr _, h => by simp [niceD] at h
  | .dic _, h => by simp [niceD] at h
  | .dit _, h => by simp [niceD] at h
  | .dkl _, h => by simp [niceD] at h
  | .dtl _, h => by simp [niceD] at h
  | .pnK _ _, h => by simp [niceD] at h
  | .pnT _ _, h => by simp [niceD] at h
  | .obj _ _ _, h => by simp [niceD] at h
  | .cls _, h => by simp [niceD] at h
  | .xcl _ _, h => by simp [niceD] at h
  | .sto _, h => by simp [niceD] at h
theorem nices_ok : ∀ ds : List D, nicesD k ds = true → plains ds = true ∧ PyData.canLayAll0 (toPys ds) = true ∧ PyData.showableAll (toPys ds) = true ∧ PyData.hasDictAll (toPys ds) = false ∧ PyData.eqvAll (toPys ds) (toPys ds) = true ∧ (∀ t ∈ PyData.shownAll (toPys ds), PyData.strOk t = true) ∧ ((PyData.shownAll (toPys ds)).map (·.length)).sum + 2 * (PyData.shownAll (toPys ds)).length ≤ wtsD k ds
  | [], _ => by refine ⟨rfl, rfl, rfl, rfl, rfl, fun t ht => ?_, ?_⟩ <;> simp_all [toPys, PyData.shownAll, wtsD]
  | d :: ds, h => by
    rw [nicesD, Bool.and_eq_true] at h
    obtain ⟨a1, a2, a3, a4, a5, a6, a7⟩ := nice_ok d h.1
    obtain ⟨h1, h2, h3, h4, h5, h6, h7⟩ := nices_ok ds h.2
    refine ⟨by rw [plains, a1, h1]; rfl, by rw [toPys, PyData.canLayAll0, a2, h2]; rfl, by rw [toPys, PyData.showableAll, a3, h3]; rfl, by rw [toPys, PyData.hasDictAll, a4, h4]; rfl, by rw [toPys, PyData.eqvAll, a5, h5]; rfl, fun t ht => ?_, ?_⟩
    · rw [toPys, PyData.shownAll] at ht
      rcases List.mem_cons.mp ht with e | e
      · rw [e]; exact a6
      · exact h6 t e
    · rw [toPys, PyData.shownAll, wtsD]
      simp only [List.map_cons, List.sum_cons, List.length_cons]
      omega
end
end
/-- nice, not too deep, not too long -/
structure NiceD (d : D) : Prop where
  nice : niceD 256 d = true
  deep : (toPy d).depth ≤ 20
  wt : wtD 256 d ≤ 900000
theorem NiceD.okE {d : D} (h : NiceD d) : okE d = true := by
  have n := nice_ok (k := 256) (by decide) (by decide) d h.nice
  have := h.deep
  simp only [DL.okE, SeqAt.shaped, n.1, n.2.1, Bool.true_and, decide_eq_true_eq]
  omega
theorem NiceD.eqv {d : D} (h : NiceD d) : DL.eqv d d = true := (nice_ok (k := 256) (by decide) (by decide) d h.nice).2.2.2.2.1
theorem NiceD.okR {d : D} (h : NiceD d) : DL.okR d = true := by
  have n := nice_ok (k := 256) (by decide) (by decide) d h.nice
  have := h.deep
  have := h.wt
  simp only [DL.okR, n.1, n.2.2.1, n.2.2.2.1, Bool.true_and, Bool.and_eq_true, decide_eq_true_eq]
  have := n.2.2.2.2.2.2
  refine ⟨⟨by omega, by omega⟩, rfl⟩
theorem NiceD.okS {d : D} (h : NiceD d) : DL.okE (.str (toPy d).shown) = true := okE_strOk (nice_ok (k := 256) (by decide) (by decide) d h.nice).2.2.2.2.2.1
theorem nices_ints {k : Nat} {l : List Int} (h : ∀ x ∈ l, x.natAbs < 2 ^ k) : nicesD k (l.map D.int) = true := by
  induction l with
  | nil => rfl
  | cons x l ih =>
    rw [List.map_cons, nicesD, niceD, decide_eq_true (h x (List.mem_cons_self ..)), ih fun y hy => h y (List.mem_cons_of_mem _ hy)]; rfl
theorem wts_ints {k : Nat} (l : List Int) : wtsD k (l.map D.int) = l.length * (k + 3) := by
  induction l with
  | nil => simp [wtsD]
  | cons x l ih => rw [List.map_cons, wtsD, wtD, ih, List.length_cons, Nat.add_mul]; omega
theorem NiceD.ints {l : List Int} (h : ∀ x ∈ l, x.natAbs < 2 ^ 256) (hl : l.length ≤ 3000) : NiceD (.lst (l.map D.int)) := by
  refine ⟨by rw [niceD]; exact nices_ints h, ?_, ?_⟩
  · rw [toPy, toPys_ints, PyData.depth, depth_ints]; decide
  · rw [wtD, wts_ints]; omega
theorem NiceD.int {i : Int} (h : i.natAbs < 2 ^ 256) : NiceD (.int i) := ⟨decide_eq_true h, by simp [toPy, PyData.depth], by simp [wtD]⟩
theorem NiceD.bl {i : Bool} : NiceD (.bl i) := ⟨rfl, by simp [toPy, PyData.depth], by simp [wtD]⟩
theorem NiceD.non : NiceD .non := ⟨rfl, by decide, by decide⟩
end DL
/-! the data layer, part 22: lists -/
namespace DL
open PySem PySem.Spec PyProof.Rows L2
theorem sIx_some {n : Nat} {d : Nat} {k : Int} (h0 : 0 ≤ k) (h : k ≤ n) : HT.sIx n d (some k) = k.toNat := by
  show (if k < 0 then (k + n).toNat else min k.toNat n) = k.toNat
  rw [if_neg (by omega)]; omega
theorem cutD_from {l : List D} {k : Int} (h0 : 0 ≤ k) (h : k ≤ l.length) : DL.cutD l (some k) none = l.drop k.toNat := by
  unfold DL.cutD
  rw [sIx_some h0 h, show HT.sIx l.length l.length none = l.length from rfl, List.take_of_length_le (by rw [List.length_drop]; omega)]
theorem cutD_to {l : List D} {k : Int} (h0 : 0 ≤ k) (h : k ≤ l.length) : DL.cutD l none (some k) = l.take k.toNat := by
  unfold DL.cutD
  rw [sIx_some h0 h, show HT.sIx l.length 0 none = 0 from rfl, List.drop_zero, Nat.sub_zero]
theorem ig_mem {l : List Int} {i : Int} (h : -(l.length : Int) ≤ i ∧ i < l.length) : ig l i ∈ l := by
  unfold ig
  by_cases h0 : 0 ≤ i
  · rw [if_pos h0, List.getD_eq_getElem?_getD, List.getElem?_eq_getElem (by omega)]
    exact List.getElem_mem _
  · rw [if_neg h0, List.getD_eq_getElem?_getD, List.getElem?_eq_getElem (by omega)]
    exact List.getElem_mem _
theorem ig_get {l : List Int} {i : Nat} (h : i < l.length) : ig l (i : Int) = l[i] := by
  unfold ig
  rw [if_pos (by omega), List.getD_eq_getElem?_getD, List.getElem?_eq_getElem (by omega)]
  rfl
/-- a comprehension over ints that gives one int for each -/
def mapG (f : Int → Int) : D → Option D
  | .int r => some (.int (f r))
  | _ => none
theorem mapG_all (f : Int → Int) : ∀ l : List Int, (l.map D.int).filterMap (mapG f) = (l.map f).map D.int
  | [] => rfl
  | r :: l => by rw [List.map_cons, List.map_cons, List.map_cons, List.filterMap_cons_some (show mapG f (.int r) = some (.int (f r)) from rfl), mapG_all f l]
theorem i_minL {l : List Int} {Q : Res → Prop} (h0 : 0 < l.length) (h : ∀ m, m ∈ l → (∀ y, y ∈ l → m ≤ y) → Q (.val (.int m))) : minD [.lst (l.map D.int)] Q := ⟨l, ints?_map l, h0, h⟩
theorem i_maxL {l : List Int} {Q : Res → Prop} (h0 : 0 < l.length) (h : ∀ m, m ∈ l → (∀ y, y ∈ l → y ≤ m) → Q (.val (.int m))) : maxD [.lst (l.map D.int)] Q := ⟨l, ints?_map l, h0, h⟩
theorem i_minT {l : List Int} {Q : Res → Prop} (h0 : 0 < l.length) (h : ∀ m, m ∈ l → (∀ y, y ∈ l → m ≤ y) → Q (.val (.int m))) : minD [.tup (l.map D.int)] Q := ⟨_, ints?_map l, h0, h⟩
theorem i_maxT {l : List Int} {Q : Res → Prop} (h0 : 0 < l.length) (h : ∀ m, m ∈ l → (∀ y, y ∈ l → y ≤ m) → Q (.val (.int m))) : maxD [.tup (l.map D.int)] Q := ⟨_, ints?_map l, h0, h⟩
theorem i_bag {ns : List Int} {Q : Bool → D → List D → Prop} {E : EdT} (h : ∀ b, BagD b → Q true b []) : bagD [.scr (ns.map D.int)] Q E := ⟨ns, rfl, h⟩
theorem s_par3 {rs : List Res} {n : Nat} {P : Prop} (h1 : rs.length = n) (h : P) : rs.length = n ∧ P := ⟨h1, h⟩
theorem i_stN {l : List Int} {k : Nat} {x : Int} {Q : D → Prop} (h1 : k < l.length) (h : Q (.lst ((l.set k x).map D.int))) : stD (.lst (l.map D.int)) (.int (k : Int)) (.int x) Q := by
  refine ⟨k, by rw [List.length_map]; exact ixN_nat h1, ?_⟩
  rw [← List.map_set]; exact h
theorem i_stP {l : List Int} {k : Int} {x : Int} {Q : D → Prop} (h0 : 0 ≤ k) (h1 : k < l.length) (h : Q (.lst ((l.set k.toNat x).map D.int))) : stD (.lst (l.map D.int)) (.int k) (.int x) Q := by
  refine ⟨k.toNat, by rw [List.length_map]; exact ixN_pos h0 h1, ?_⟩
  rw [← List.map_set]; exact h
theorem rep_one (x : D) : ∀ n : Nat, (List.replicate n [x]).flatten = List.replicate n x
  | 0 => rfl
  | n + 1 => by rw [List.replicate_succ, List.replicate_succ, List.flatten_cons, rep_one x n]; rfl
theorem i_mulR {n : Nat} {x : Int} {Q : Res → Prop} (h1 : n ≤ 100000) (h : Q (.fr (.lst ((List.replicate n x).map D.int)))) : mulD (.lst [.int x]) (.int (n : Int)) Q := by
  refine ⟨⟨by omega, by omega, ?_⟩, ?_⟩
  · show 1 * ((n : Int)).toNat ≤ _
    omega
  · rw [Int.toNat_natCast, rep_one, ← List.map_replicate]; exact h
theorem i_appendI {l : List Int} {x : Int} {Q : D → Res → Prop} (h1 : l.length < 100000) (h : Q (.lst ((l ++ [x]).map D.int)) (.val .non)) : appendD (.lst (l.map D.int)) [.int x] Q := by
  refine ⟨by rw [List.length_map]; exact h1, ?_⟩
  rw [List.map_append] at h; exact h
theorem i_popI {l : List Int} {k : Int} {Q : D → Res → Prop} (h0 : 0 ≤ k) (h1 : k < l.length) (h2 : l.length < 2 ^ 63) (h : Q (.lst ((l.eraseIdx k.toNat).map D.int)) (.val (.int (ig l k)))) : popD (.lst (l.map D.int)) [.int k] Q := by
  refine ⟨⟨by omega, by omega⟩, k.toNat, .int (ig l k), ?_, ?_, ?_⟩
  · unfold seqIndex?
    rw [List.length_map]
    simp only [show ¬ k < 0 by omega, if_false]
    rw [if_pos (by rw [Bool.and_eq_true, decide_eq_true_eq, decide_eq_true_eq]; exact ⟨h0, h1⟩)]
  · rw [List.getElem?_map, List.getElem?_eq_getElem (by omega)]
    have e : k = ((k.toNat : Nat) : Int) := by omega
    have := ig_get (l := l) (i := k.toNat) (by omega)
    rw [← e] at this
    rw [this]; rfl
  · have e : ∀ (l : List Int) (k : Nat), (l.map D.int).eraseIdx k = (l.eraseIdx k).map D.int := fun l => by
      induction l with
      | nil => intro k; rfl
      | cons x l ih =>
        intro k
        cases k with
        | zero => rfl
        | succ k => simp only [List.map_cons, List.eraseIdx_cons_succ, ih]
    rw [e]; exact h
/-- how great drawn ranks are -/
abbrev rkOk (x : Int) : Prop := -(10 ^ 12) ≤ x ∧ x ≤ 10 ^ 39
/-- what every law's own def promises -/
abbrev slawD : DSp := fun ds Q _ => ∃ ns : List Int, ds = [.scr (ns.map D.int)] ∧ Q false (.bl true) []
theorem law_fin (ns : List Int) : slawD [.scr (ns.map D.int)] (fun _ d _ => d = .bl true) noX := ⟨ns, rfl, rfl⟩
end DL
/-! the data layer, part 23: rings, outcomes, calls: plain mathematics -/
namespace DL
open PySem PySem.Spec PyProof.Rows L2
/-! ### lists by places -/
theorem ig_nat (l : List Int) (i : Nat) : ig l (i : Int) = l.getD i 0 := by
  unfold ig
  rw [if_pos (by omega)]; rfl
theorem ig_set {l : List Int} {i j : Nat} {x : Int} (hi : i < l.length) : ig (l.set i x) (j : Int) = if i = j then x else ig l (j : Int) := by
  rw [ig_nat, ig_nat, List.getD_eq_getElem?_getD, List.getD_eq_getElem?_getD]
  by_cases h : i = j
  · subst h
    rw [if_pos rfl, List.getElem?_set_self hi]; rfl
  · rw [if_neg h, List.getElem?_set_ne h]
theorem ig_range {n i : Nat} (f : Nat → Int) (h : i < n) : ig ((List.range n).map f) (i : Int) = f i := by
  rw [ig_get (by simpa using h), List.getElem_map, List.getElem_range]
theorem ig_ext {l m : List Int} (h1 : l.length = m.length) (h : ∀ i : Nat, i < l.length → ig l (i : Int) = ig m (i : Int)) : l = m := by
  apply List.ext_getElem h1
  intro i a b
  have := h i a
  rw [ig_get a, ig_get b] at this
  exact this
theorem sum_set : ∀ {l : List Int} {i : Nat} {x : Int}, i < l.length → (l.set i x).sum = l.sum - ig l (i : Int) + x
  | [], _, _, h => absurd h (by simp)
  | y :: l, 0, x, _ => by
    rw [List.set_cons_zero, List.sum_cons, List.sum_cons, ig_nat]
    show x + l.sum = y + l.sum - y + x
    omega
  | y :: l, i + 1, x, h => by
    have ih := sum_set (l := l) (i := i) (x := x) (by simpa using h)
    rw [List.set_cons_succ, List.sum_cons, List.sum_cons, ih, ig_nat, ig_nat]
    show _ = y + l.sum - l.getD i 0 + x
    omega
/-! ### outcomes -/
/-- the places 0, 1, .. as ints -/
def iota (n : Nat) : List Int := (List.range n).map fun i => ((i : Nat) : Int)
/-- one number for each rest, their sum that of the places -/
structure Out (n : Nat) (o : List Int) : Prop where
  len : o.length = n
  inj : ∀ i j : Nat, i < n → j < n → ig o (i : Int) % (n : Int) = ig o (j : Int) % (n : Int) → i = j
  sur : ∀ i : Nat, i < n → ∃ p : Nat, p < n ∧ ig o (p : Int) % (n : Int) = i
  sum : o.sum = (iota n).sum
theorem Out.res {n : Nat} {o : List Int} (_ : Out n o) {i : Nat} (hi : i < n) : 0 ≤ ig o (i : Int) % (n : Int) ∧ ig o (i : Int) % (n : Int) < n := ⟨Int.emod_nonneg _ (by omega), Int.emod_lt_of_pos _ (by omega)⟩
/-- the way back -/
def invO (t : List Int) : List Int := (List.range t.length).map fun (i : Nat) => match (List.range t.length).find? (fun p => decide (ig t ((p : Nat) : Int) % (t.length : Int) = i)) with
  | some p => (p : Int) - ig t (p : Int) / t.length * t.length
  | none => 0
theorem invO_len (t : List Int) : (invO t).length = t.length := by simp [invO]
theorem Out.inv_at {n : Nat} {t : List Int} (O : Out n t) {p : Nat} (hp : p < n) : ig (invO t) (ig t (p : Int) % (n : Int)) = p - ig t (p : Int) / n * n := by
  have hl := O.len
  obtain ⟨r0, r1⟩ := O.res hp
  obtain ⟨i, hi⟩ := Int.eq_ofNat_of_zero_le r0
  rw [hi] at r1 ⊢
  unfold invO
  rw [ig_range _ (by omega), hl]
  have hf : (List.range n).find? (fun q => decide (ig t ((q : Nat) : Int) % (n : Int) = i)) = some p := by
    cases e : (List.range n).find? (fun q => decide (ig t ((q : Nat) : Int) % (n : Int) = i)) with
    | none =>
      have := List.find?_eq_none.mp e p (List.mem_range.mpr hp)
      simp [hi] at this
    | some q =>
      have h1 := List.find?_some e
      have h2 := List.mem_range.mp (List.mem_of_find?_eq_some e)
      have h1 : ig t ((q : Nat) : Int) % (n : Int) = i := by simpa using h1
      rw [O.inj q p h2 hp (by rw [h1, hi])]
  rw [hf]
theorem Out.inv_uniq {n : Nat} {t l : List Int} (O : Out n t) (hl : l.length = n) (h : ∀ p : Nat, p < n → ig l (ig t (p : Int) % (n : Int)) = p - ig t (p : Int) / n * n) : l = invO t := by
  refine ig_ext (by rw [hl, invO_len, O.len]) fun i hi => ?_
  obtain ⟨p, hp, e⟩ := O.sur i (by omega)
  rw [← e, h p hp, O.inv_at hp]
/-- the way back, filled in up to place k -/
structure Scat (n : Nat) (t l : List Int) (k : Nat) : Prop where
  len : l.length = n
  at_ : ∀ p : Nat, p < k → ig l (ig t (p : Int) % (n : Int)) = p - ig t (p : Int) / n * n
theorem Scat.done {n : Nat} {t l : List Int} (O : Out n t) (S : Scat n t l n) : l = invO t := O.inv_uniq S.len S.at_
/-! ### calls -/
/-- the place behind a gap, and the laps between -/
def nxP (n g : Nat) : Nat := if g + 1 < n then g + 1 else 0
def shP (n g : Nat) : Int := if g + 1 < n then 0 else n
def swapT (t : List Int) (g : Nat) : List Int := (t.set g (ig t (nxP t.length g : Nat) + shP t.length g)).set (nxP t.length g) (ig t (g : Int) - shP t.length g)
/-- the rank of the copy that begins at an unrolled place -/
def rkP (r : List Int) (x : Int) : Int := ig r (x % r.length)
def passT (r t : List Int) (g : Nat) : Bool := decide (rkP r (ig t (nxP t.length g : Nat) + shP t.length g) < rkP r (ig t (g : Int)))
def callT (r t : List Int) (g : Nat) : List Int := if passT r t g = true then swapT t g else t
theorem nxP_lt {n g : Nat} (h : 0 < n) : nxP n g < n := by unfold nxP; split <;> omega
theorem nxP_ne {n g : Nat} (h : 2 ≤ n) (hg : g < n) : nxP n g ≠ g := by unfold nxP; split <;> omega
theorem shP_mod (n g : Nat) (x : Int) : (x + shP n g) % (n : Int) = x % (n : Int) ∧ (x - shP n g) % (n : Int) = x % (n : Int) := by
  unfold shP
  split
  · simp
  · exact ⟨by rw [Int.add_emod_right], by rw [Int.sub_emod_right]⟩
theorem swapT_len (t : List Int) (g : Nat) : (swapT t g).length = t.length := by simp [swapT]
theorem swapT_at {n : Nat} {t : List Int} (hl : t.length = n) {g : Nat} (hg : g < n) (p : Nat) : ig (swapT t g) (p : Int) = if nxP n g = p then ig t (g : Int) - shP n g else if g = p then ig t (nxP n g : Nat) + shP n g else ig t (p : Int) := by
  unfold swapT
  rw [hl, ig_set (by rw [List.length_set, hl]; exact nxP_lt (by omega)), ig_set (by omega)]
/-- who stands there otherwise -/
def tau (n g p : Nat) : Nat := if nxP n g = p then g else if g = p then nxP n g else p
theorem tau_lt {n g p : Nat} (hg : g < n) (hp : p < n) : tau n g p < n := by
  have := nxP_lt (n := n) (g := g) (by omega)
  unfold tau; split
  · exact hg
  · split <;> omega
theorem tau_tau {n g p : Nat} (h2 : 2 ≤ n) (hg : g < n) : tau n g (tau n g p) = p := by
  have := nxP_ne h2 hg
  unfold tau
  repeat' split
  all_goals first | omega | (simp_all; try omega)
theorem swapT_res {n : Nat} {t : List Int} (hl : t.length = n) {g : Nat} (hg : g < n) (p : Nat) : ig (swapT t g) (p : Int) % (n : Int) = ig t (tau n g p : Nat) % (n : Int) := by
  rw [swapT_at hl hg]
  unfold tau
  split
  · exact (shP_mod n g _).2
  · split
    · exact (shP_mod n g _).1
    · rfl
theorem Out.swap {n : Nat} {t : List Int} (O : Out n t) (h2 : 2 ≤ n) {g : Nat} (hg : g < n) : Out n (swapT t g) := by
  have hl := O.len
  refine ⟨by rw [swapT_len, hl], fun i j hi hj e => ?_, fun i hi => ?_, ?_⟩
  · rw [swapT_res hl hg, swapT_res hl hg] at e
    have := O.inj _ _ (tau_lt hg hi) (tau_lt hg hj) e
    rw [← tau_tau (p := i) h2 hg, this, tau_tau h2 hg]
  · obtain ⟨p, hp, e⟩ := O.sur i hi
    exact ⟨tau n g p, tau_lt hg hp, by rw [swapT_res hl hg, tau_tau h2 hg, e]⟩
  · have hx := nxP_lt (n := n) (g := g) (by omega)
    unfold swapT
    rw [hl, sum_set (by rw [List.length_set, hl]; exact hx), sum_set (by omega), ig_set (by omega), if_neg (nxP_ne h2 hg).symm, O.sum]
    omega
theorem callT_len (r t : List Int) (g : Nat) : (callT r t g).length = t.length := by
  unfold callT; split
  · exact swapT_len t g
  · rfl
theorem Out.call {n : Nat} {t : List Int} (O : Out n t) (h2 : 2 ≤ n) (r : List Int) {g : Nat} (hg : g < n) : Out n (callT r t g) := by
  unfold callT; split
  · exact O.swap h2 hg
  · exact O
/-- the copies at the places after a schedule -/
def runT (r : List Int) : List Int → List Int → List Int
  | [], t => t
  | g :: gs, t => runT r gs (callT r t g.toNat)
theorem Out.run {n : Nat} (h2 : 2 ≤ n) (r : List Int) : ∀ (gs t : List Int), (∀ g ∈ gs, 0 ≤ g ∧ g < n) → Out n t → Out n (runT r gs t)
  | [], _, _, O => O
  | g :: gs, t, h, O => by
    have := h g (List.mem_cons_self ..)
    exact Out.run h2 r gs _ (fun x hx => h x (List.mem_cons_of_mem _ hx)) (O.call h2 r (by omega))
end DL
/-! the data layer, part 24: those that are carried over a moment: plain mathematics -/
namespace DL
open PySem PySem.Spec PyProof.Rows L2
/-! ### how far the places lie -/
def Far (B : Nat) (t : List Int) : Prop := ∀ x ∈ t, x.natAbs ≤ B
theorem Far.ig {B : Nat} {t : List Int} (h : Far B t) (i : Nat) : (DL.ig t (i : Int)).natAbs ≤ B := by
  by_cases hi : i < t.length
  · rw [ig_get hi]
    exact h _ (List.getElem_mem _)
  · rw [ig_nat, List.getD_eq_getElem?_getD, List.getElem?_eq_none (by omega)]
    exact Nat.zero_le _
theorem Far.set {B : Nat} {t : List Int} (h : Far B t) {i : Nat} {x : Int} (hx : x.natAbs ≤ B) : Far B (t.set i x) := fun y hy => by
  rcases List.mem_or_eq_of_mem_set hy with hy | rfl
  · exact h y hy
  · exact hx
theorem Far.mono {B B' : Nat} {t : List Int} (h : Far B t) (hb : B ≤ B') : Far B' t := fun x hx => Nat.le_trans (h x hx) hb
theorem shP_bound (n g : Nat) : (shP n g).natAbs ≤ n := by unfold shP; split <;> simp
theorem Far.call {B : Nat} {t : List Int} (h : Far B t) (r : List Int) (g : Nat) : Far (B + t.length) (callT r t g) := by
  unfold callT
  split
  · unfold swapT
    have hs := shP_bound t.length g
    refine ((h.mono (by omega)).set ?_).set ?_
    · have := h.ig (nxP t.length g)
      have := Int.natAbs_add_le (DL.ig t (nxP t.length g : Nat)) (shP t.length g)
      omega
    · have := h.ig g
      have := Int.natAbs_sub_le (DL.ig t (g : Int)) (shP t.length g)
      omega
  · exact h.mono (by omega)
theorem Far.run {n : Nat} (r : List Int) : ∀ (gs : List Int) {B : Nat} {t : List Int}, t.length = n → Far B t → Far (B + n * gs.length) (runT r gs t)
  | [], B, t, _, h => h
  | g :: gs, B, t, hl, h => by
    have := Far.run r gs (B := B + n) (t := callT r t g.toNat) (by rw [callT_len, hl]) (by have := h.call r g.toNat; rwa [hl] at this)
    refine this.mono ?_
    rw [List.length_cons, Nat.mul_succ]
    omega
end DL
/-! the data layer, part 25: crossings of an outcome: plain mathematics -/
namespace DL
open PySem PySem.Spec PyProof.Rows L2
end DL
/-! the data layer, part 26: sorted(set(l)), l a list of ints -/
namespace DL
open PySem PySem.Spec PyProof.Rows L2
/-! ### sorted(set(l)) -/
def rSetL (K : Fg) (w : World) : List V → Hp → VK → Prop := fun vs H Q => ∃ (l : Addr) (ns : List Int), vs = [.ref l] ∧ SqL K H l (ns.map V.int) ∧ ns.length + 1 < scanBound ∧ ∀ a c, c ≤ ns.length → H a = none → Q (.ref a) (upd H a (SetO w a (fun j => decide (j ∈ ns)) c))
section
variable {X : Cx} {C : Ctx}
def mSS (ma : DTE) : DTE := fun Γ Q => ma Γ fun r Γ1 => ∃ ds ns, rd Γ1 r = some (.lst ds) ∧ ints? ds = some ns ∧ ns.length < 64 ∧ ∀ ms : List Int, ms.Pairwise (· < ·) → (∀ k, k ∈ ms ↔ k ∈ ns) → Q (.fr (.lst (ms.map D.int))) Γ1
end
section
variable {ma : DTE} {Γ : Env} {Q : QE} {r : Res}
def ssk (r : Res) (Γ1 : Env) (Q : QE) : Prop := ∃ ds ns, rd Γ1 r = some (.lst ds) ∧ ints? ds = some ns ∧ ns.length < 64 ∧ ∀ ms : List Int, ms.Pairwise (· < ·) → (∀ k, k ∈ ms ↔ k ∈ ns) → Q (.fr (.lst (ms.map D.int))) Γ1
theorem w_SS (h : ma Γ fun r Γ1 => ssk r Γ1 Q) : mSS ma Γ Q := h
theorem w_ss {l : List Int} (h1 : rd Γ r = some (.lst (l.map D.int))) (h2 : l.length < 64) (h : ∀ ms : List Int, ms.Pairwise (· < ·) → (∀ k, k ∈ ms ↔ k ∈ l) → Q (.fr (.lst (ms.map D.int))) Γ) : ssk r Γ Q := ⟨_, l, h1, ints?_map l, h2, h⟩
end
end DL
/-! the data layer, part 27: the members of a list in rising order: plain mathematics -/
namespace DL
open PySem PySem.Spec PyProof.Rows L2
end DL
/-! the data layer, part 28: a new list is changed and dropped -/
namespace DL
open PySem PySem.Spec PyProof.Rows L2
/-- o.m(n) of a new list that nobody keeps -/
def mMutF (f : D → List D → (D → Res → Prop) → Prop) (mo : DTE) (as : List D) : DTE := fun Γ Q => mo Γ fun ro Γ1 => ∃ ds, ro = .fr (.lst ds) ∧ f (.lst ds) as fun _ z => Q z Γ1
section
variable {mo : DTE} {Γ : Env} {Q : QE} {r : Res}
def mfk (f : D → List D → (D → Res → Prop) → Prop) (as : List D) (r : Res) (Γ1 : Env) (Q : QE) : Prop := ∃ ds, r = .fr (.lst ds) ∧ f (.lst ds) as fun _ z => Q z Γ1
theorem e_MutF {f : D → List D → (D → Res → Prop) → Prop} {as : List D} (h : mo Γ fun r Γ1 => mfk f as r Γ1 Q) : mMutF f mo as Γ Q := h
theorem e_mutF {f : D → List D → (D → Res → Prop) → Prop} {as ds : List D} (h : f (.lst ds) as fun _ z => Q z Γ) : mfk f as (.fr (.lst ds)) Γ Q := ⟨ds, rfl, h⟩
end
end DL
/-! the data layer, part 29: block rings: plain mathematics -/
namespace DL
open PySem PySem.Spec PyProof.Rows L2
/-- the ranks of a ring with c strong places, the last of them at x -/
def blk (n : Nat) (c x : Int) : List Int := (iota n).map fun p => if (x - p) % (n : Int) < c then 1 else 0
end DL
/-! the data layer, part 30: data in data: nice, equal -/
namespace DL
open PySem PySem.Spec PyProof.Rows L2
/-- nice, at most k deep, of weight at most w -/
structure Ni (k w : Nat) (d : D) : Prop where
  nice : niceD 256 d = true
  deep : (toPy d).depth ≤ k
  wt : wtD 256 d ≤ w
structure Nis (k w : Nat) (ds : List D) : Prop where
  nice : nicesD 256 ds = true
  deep : PyData.depthAll (toPys ds) ≤ k
  wt : wtsD 256 ds ≤ w
theorem Ni.done {k w : Nat} {d : D} (h : Ni k w d) (hk : k ≤ 20) (hw : w ≤ 900000) : NiceD d := ⟨h.nice, Nat.le_trans h.deep hk, Nat.le_trans h.wt hw⟩
theorem Nis.nil : Nis 0 0 [] := ⟨rfl, by rw [toPys, PyData.depthAll]; exact Nat.le_refl _, by rw [wtsD]; exact Nat.le_refl _⟩
theorem Nis.cons {k w k2 w2 : Nat} {d : D} {ds : List D} (h : Ni k w d) (t : Nis k2 w2 ds) : Nis (max k k2) (w + 2 + w2) (d :: ds) := by
  refine ⟨by rw [nicesD, h.nice, t.nice]; rfl, ?_, ?_⟩
  · rw [toPys, PyData.depthAll]
    have := h.deep
    have := t.deep
    omega
  · rw [wtsD]
    have := h.wt
    have := t.wt
    omega
theorem Ni.lst {k w : Nat} {ds : List D} (h : Nis k w ds) : Ni (k + 1) (w + 4) (.lst ds) := by
  refine ⟨by rw [niceD]; exact h.nice, ?_, ?_⟩
  · rw [toPy, PyData.depth]
    have := h.deep
    omega
  · rw [wtD]
    have := h.wt
    omega
theorem Ni.tup {k w : Nat} {ds : List D} (h : Nis k w ds) : Ni (k + 1) (w + 4) (.tup ds) := by
  refine ⟨by rw [niceD]; exact h.nice, ?_, ?_⟩
  · rw [toPy, PyData.depth]
    have := h.deep
    omega
  · rw [wtD]
    have := h.wt
    omega
theorem Ni.int {i : Int} (h : i.natAbs < 2 ^ 256) : Ni 0 257 (.int i) := ⟨decide_eq_true h, by simp [toPy, PyData.depth], by simp [wtD]⟩
theorem Ni.bl {b : Bool} : Ni 0 5 (.bl b) := ⟨rfl, by simp [toPy, PyData.depth], by simp [wtD]⟩
theorem Ni.non : Ni 0 5 .non := ⟨rfl, by decide, by decide⟩
theorem Nis.ints {l : List Int} (h : ∀ x ∈ l, x.natAbs < 2 ^ 256) {m : Nat} (hl : l.length ≤ m) : Nis 0 (m * 259) (l.map D.int) := by
  refine ⟨nices_ints h, by rw [toPys_ints, depth_ints]; exact Nat.le_refl _, ?_⟩
  rw [wts_ints]
  exact Nat.mul_le_mul_right _ hl
theorem Ni.ints {l : List Int} (h : ∀ x ∈ l, x.natAbs < 2 ^ 256) {m : Nat} (hl : l.length ≤ m) : Ni 1 (m * 259 + 4) (.lst (l.map D.int)) := Ni.lst (Nis.ints h hl)
/-- many nice data -/
theorem Nis.all {k w : Nat} : ∀ {ds : List D}, (∀ d ∈ ds, Ni k w d) → Nis k (ds.length * (w + 2)) ds
  | [], _ => ⟨rfl, by rw [toPys, PyData.depthAll]; exact Nat.zero_le _, by rw [wtsD]; exact Nat.zero_le _⟩
  | d :: ds, h => by
    have t := Nis.all (ds := ds) fun e he => h e (List.mem_cons_of_mem _ he)
    have c := Nis.cons (h d (List.mem_cons_self ..)) t
    refine ⟨c.nice, by have := c.deep; omega, ?_⟩
    have := c.wt
    rw [List.length_cons, Nat.succ_mul]
    omega
end DL
/-! the data layer, part 31: repr and len of own objects, {list} in an f-string -/
namespace DL
open PySem PySem.Spec PyProof.Rows L2
section
variable {prog : Program} {w : World} {A : Around} {E : Value → Shared → Prop} {s : Shared} {K : Fg} {x C f : Addr} {ox : Obj} {od : Option Obj}
theorem repr_K {Q : Value → Shared → Prop} (X : K.In s.heap) (I : PySem.W.InstAt s.heap x ox C od) (hs : PySem.W.findIn K (.ref C) "__repr__" = some (some (.ref f))) (hf : PySem.W.isFn K (.ref f) = true) (hu : A.in1.units < cLine)
    (hcall : wpAny (model prog w) A.in1 (call (.ref f) [.ref x]) (fun r s' => ∃ m tk, r = .str m tk ∧ Q (.str m tk) s') E s) :
    wpAny (model prog w) A (call (.builtin "repr") [.ref x]) Q E s := by
  refine Calls.call_function_entry F.kind_repr F.plain_repr F.entry_repr (F.args_repr1 _) ?_
  unfold Builtin.«repr»
  refine wpAny_bind (m := oneArg "repr" _) (wpAny_pure ?_)
  refine wpAny_bind (wpAny_cRoomFor hu ?_)
  refine wpAny_bind ((I.type.andThen (PySem.W.looks_findIn X hs)).here ?_)
  show wpAny _ _ (if (some (Value.ref f)).isNone = true then _ else _) _ _ _
  rw [if_neg (by simp)]
  refine wpAny_bind (m := callSpecialIfBound? (.ref x) (Str.ofString "__repr__") _) (PySem.W.ifBound_K X I hs hf (wpAny_mono hcall (fun r s' hr => ?_) fun _ _ y => y))
  obtain ⟨m, tk, rfl, hq⟩ := hr
  refine wpAny_bind (wpAny_isInstance (typeIs_str _ _ _) isSubtype_str_str ?_)
  first
    | exact wpAny_pure ⟨_, rfl, hq⟩
    | (rw [if_pos rfl]; exact wpAny_pure ⟨_, rfl, hq⟩)
    | (simp only [if_true]; exact wpAny_pure ⟨_, rfl, hq⟩)
end
section
variable {X : Cx} {C : Ctx}
/-- repr(x), len(x) by the class's own methods -/
def rOwnRepr (C : Addr) (sp : Sp) (E : XK) : List V → Hp → VK → Prop := fun xs H Q => ∃ a dx fs, xs = [.ref a] ∧ H a = some (.ins C dx fs) ∧ sp xs H (fun v H' => ∃ m, v = .str m ∧ Q (.str m) H') E
variable {k : Nat} {f C0 : Addr} {fd : FuncData} {ps : List Str} {sp : Sp} {E : XK}
theorem cr_ownRepr (F : FnG X.prog X.w X.K X.mg X.base k f fd ps sp) (hg : X.A.guards = some []) (hr : Room (k + 1) X.A) (hs : PySem.W.findIn X.K (.ref C0) "__repr__" = some (some (.ref f))) (hf : PySem.W.isFn X.K (.ref f) = true) (hb : Binds X.K fd ps []) (hx : Passes (L2N.CX X.prog X.w) X E) : CallR X (.builtin "repr") (rOwnRepr C0 sp E) := by
  intro pins s σ H xs us Q I r d
  obtain ⟨a, dx, fs, rfl, ha, hsp⟩ := d
  rw [Vals.ref1 r]
  obtain ⟨mA, J, _⟩ := ins_get I.hok ha
  obtain ⟨od, J, _⟩ := J.look
  have hl := F.len _ _ _ _ hsp
  have r2 : Vals [V.ref a] [Value.ref a] := .cons rfl .nil
  refine repr_K I.kIn J hs hf (by have := hr.un; show X.A.units + 1 < cLine; omega) ?_
  refine wpAny_call (codeAny_mono (F.go X.A.in1 hg hr.in1 X.stack s H ⟨[.ref a], []⟩ [.ref a] [.ref a] _ E I.env0.in1 (by
    have := hb s [.ref a] I.kIn (by simpa using hl)
    simpa using this) r2 hsp) fun r s' hq => ?_)
  cases r with
  | error e => exact hx pins σ H s e s' I hq
  | ok fl =>
    cases fl with
    | ret w =>
      obtain ⟨z, H', I', rz, m, ez, q⟩ := I.after hq
      subst ez
      obtain ⟨tk, rfl⟩ := rz
      exact ⟨m, tk, rfl, .str m, H', I', ⟨tk, rfl⟩, q⟩
    | next => exact False.elim hq
    | brk => exact False.elim hq
    | cont => exact False.elim hq
end
end DL
/-! the data layer, part 32: repr and len of own objects, f-strings: over data -/
namespace DL
open PySem PySem.Spec PyProof.Rows L2
def rpk (Γ2 : Env) (Q : QE) : Bool → D → List D → Prop := fun b d ds' => ∃ Γ3, putsD [] ds' Γ2 = some Γ3 ∧ (Γ3 = Γ2 ∧ ∃ z, (if b = true then frOf d else .val d) = .val (.str z) ∧ Q (.val (.str z)) Γ2)
theorem rpk_in {Γ2 : Env} {Q : QE} {z : Str} (h : Q (.val (.str z)) Γ2) : rpk Γ2 Q false (.str z) [] := ⟨Γ2, rfl, rfl, z, rfl, h⟩
def lnk (Γ2 : Env) (Q : QE) : Bool → D → List D → Prop := fun b d ds' => ∃ Γ3, putsD [] ds' Γ2 = some Γ3 ∧ (Γ3 = Γ2 ∧ ∃ z : Int, (if b = true then frOf d else .val d) = .val (.int z) ∧ 0 ≤ z ∧ z < 2 ^ 63 ∧ Q (.val (.int z)) Γ2)
theorem lnk_in {Γ2 : Env} {Q : QE} {z : Int} (h0 : 0 ≤ z) (h1 : z < 2 ^ 63) (h : Q (.val (.int z)) Γ2) : lnk Γ2 Q false (.int z) [] := ⟨Γ2, rfl, rfl, z, rfl, h0, h1, h⟩
def mReprO (C : Addr) (sd : DSp) (ma : DTE) : DTE := fun Γ Q => ma Γ fun ra Γ1 => ∃ ns ds, dat ra = some (.obj C ns ds) ∧ sd [.obj C ns ds] (rpk Γ1 Q) noX
def mLenO (C : Addr) (sd : DSp) (ma : DTE) : DTE := fun Γ Q => ma Γ fun ra Γ1 => ∃ ns ds, dat ra = some (.obj C ns ds) ∧ sd [.obj C ns ds] (lnk Γ1 Q) noX
/-! ### f-strings -/
section
variable {X : Cx} {C : Ctx}
/-- {x}: a text, an int, a list, a tuple -/
def tFmtD (K : Fg) (te : TE) : TE := fun σ H Q => te σ H fun x H1 => (∃ y : Str, x = .str y ∧ y.length ≤ sizeLine ∧ Q (.str y) H1) ∨ (∃ i : Int, x = .int i ∧ i.natAbs.log2 < 1920 ∧ Q (.str (toString i)) H1) ∨
  ∃ (a : Addr) (d : PyData), x = .ref a ∧ Dp K H1 x d ∧ (d.showable = true ∧ d.depth ≤ 50 ∧ d.shown.length ≤ 1000000 ∧ d.hasDict = false) ∧ Q (.str d.shown) H1
theorem pe_fmtD {e : Expr} {te : TE} {pos : Pos} (hg : X.A.guards = some []) (hu : X.A.units + 100 < cLine) (he : PE X e te) : PE X (.FormattedValue e (-1) none pos) (tFmtD X.K te) := by
  refine ⟨fun pins s σ H Q I h => ?_⟩
  refine wpAny_FormattedValue_plain (thn (he.run pins s σ H _ I h) fun v s1 hv => ?_)
  obtain ⟨x, H1, I1, r1, q⟩ := hv
  rcases q with ⟨y, rfl, hz, q⟩ | ⟨i, rfl, hz, q⟩ | ⟨a, d, rfl, hd, ⟨h1, h2, h3, h4⟩, q⟩
  · obtain ⟨t, rfl⟩ := r1
    exact wpAny_formatField_str ⟨.str y, H1, I1, ⟨t, rfl⟩, q⟩ ⟨.str y, H1, I1.tok _, ⟨_, rfl⟩, q⟩ hz
  · obtain ⟨t, rfl⟩ := r1
    exact wpAny_formatField_int hz ⟨.str (toString i), H1, I1.tok _, ⟨_, rfl⟩, q⟩
  · have big : (1000000 : Nat) ≤ sizeLine := by decide
    obtain ⟨as, hr⟩ := Dp.reads I1 _ _ v hd r1
    cases r1
    exact formatField_of_reads hr h1 (fun z => by rw [h4] at z; cases z) hg (by omega) (fun _ _ e => e) (fun h' u tk kk => ⟨.str _, H1, I1.kept kk, ⟨_, rfl⟩, q⟩) (Nat.le_trans h3 big)
def fmtD : D → Option Str
  | .str y => if y.length ≤ 1000000 then some y else none
  | .int i => if i.natAbs.log2 < 1920 then some (toString i) else none
  | .lst ds => if okR (.lst ds) = true then some (toPy (.lst ds)).shown else none
  | .tup ds => if okR (.tup ds) = true then some (toPy (.tup ds)).shown else none
  | _ => none
def mFmt (ma : DTE) : DTE := fun Γ Q => ma Γ fun r Γ1 => ∃ d y, rd Γ1 r = some d ∧ fmtD d = some y ∧ Q (.val (.str y)) Γ1
theorem sim_fmt {ta : TE} {ma : DTE} (ha : SimE C ta ma) : SimE C (tFmtD C.K ta) (mFmt ma) := fun Γ O σ H Qd Q R h k => by
  refine ha Γ O σ H _ _ R h fun r Γ1 x H1 R1 e1 q1 => ?_
  obtain ⟨d, y, hd, hy, q⟩ := q1
  have hb := R1.pend.b2 R1.rel hd
  have fin : Q (.str y) H1 := k (.val (.str y)) Γ1 _ H1 ⟨R1.rel, .str _⟩ (.val e1.1) q
  have pk : ∀ {d : D}, okR d = true → plain d = true ∧ ((toPy d).showable = true ∧ (toPy d).depth ≤ 50 ∧ (toPy d).shown.length ≤ 1000000 ∧ (toPy d).hasDict = false) := fun {d} ho => by
    unfold okR at ho
    simp only [Bool.and_eq_true, decide_eq_true_eq, Bool.not_eq_true'] at ho
    exact ⟨ho.1, ho.2.1.1.1, ho.2.1.1.2, ho.2.1.2, ho.2.2⟩
  unfold fmtD at hy
  split at hy
  · split at hy
    · cases hy
      obtain rfl := hb.str
      rename_i hz
      exact .inl ⟨_, rfl, Nat.le_trans hz (by decide), fin⟩
    · cases hy
  · split at hy
    · cases hy
      obtain rfl := hb.int
      rename_i hz
      exact .inr (.inl ⟨_, rfl, hz, fin⟩)
    · cases hy
  · split at hy
    · cases hy
      rename_i ho
      obtain ⟨p1, p2⟩ := pk ho
      have hdp := hb.dp p1
      obtain ⟨a, vs, rfl, _⟩ := hb.lst
      exact .inr (.inr ⟨a, _, rfl, hdp, p2, fin⟩)
    · cases hy
  · split at hy
    · cases hy
      rename_i ho
      obtain ⟨p1, p2⟩ := pk ho
      have hdp := hb.dp p1
      obtain ⟨a, vs, rfl, _⟩ := hb.tup
      exact .inr (.inr ⟨a, _, rfl, hdp, p2, fin⟩)
    · cases hy
  · cases hy
/-- the parts, one behind the other -/
def mJs : List DTE → Str → Env → (Str → Env → Prop) → Prop
  | [], acc, Γ, Q => Q acc Γ
  | m :: ms, acc, Γ, Q => m Γ fun r Γ1 => ∃ y, r = .val (.str y) ∧ (acc ++ y).length ≤ 1000000 ∧ mJs ms (acc ++ y) Γ1 Q
def mJoined (ms : List DTE) : DTE := fun Γ Q => mJs ms Str.empty Γ fun y Γ1 => Q (.val (.str y)) Γ1
inductive DJ (X : Cx) (C : Ctx) : List Expr → List TE → List DTE → Prop where
  | nil : DJ X C [] [] []
  | cons {e : Expr} {t : TE} {m : DTE} {es : List Expr} {ts : List TE} {ms : List DTE} (h : DE X C e t m) (r : DJ X C es ts ms) : DJ X C (e :: es) (t :: ts) (m :: ms)
theorem DJ.pj {es : List Expr} {ts : List TE} {ms : List DTE} (h : DJ X C es ts ms) : PJ X es ts := by
  induction h with
  | nil => exact .nil
  | cons h _ ih => exact .cons h.pe ih
theorem sim_js {es : List Expr} {ts : List TE} {ms : List DTE} (h : DJ X C es ts ms) : ∀ (acc : Str) (Γ : Env) (O : List Addr) (σ : L2.St) (H : Hp) (Qd : Str → Env → Prop) (Q : Str → Hp → Prop), RelO C Γ O σ H → mJs ms acc Γ Qd →
    (∀ y Γ1 H1, RelO C Γ1 O σ H1 → Same (hide O H) (hide O H1) → Qd y Γ1 → Q y H1) → tJs ts acc σ H Q := by
  induction h with
  | nil => intro acc Γ O σ H Qd Q R q k; exact k acc Γ H R (fun _ _ e => e) q
  | cons h _ ih =>
    intro acc Γ O σ H Qd Q R q k
    refine h.sim Γ O σ H _ _ R q fun r Γ1 x H1 R1 e1 q1 => ?_
    obtain ⟨y, rfl, hz, q⟩ := q1
    obtain ⟨R1, r1⟩ := R1
    cases r1
    exact ⟨y, rfl, Nat.le_trans hz (by decide), ih _ Γ1 O σ H1 Qd Q R1 q fun y Γ2 H2 R2 e2 q2 => k y Γ2 H2 R2 (L2.Same.trans e1.1 e2) q2⟩
theorem de_fmt {e : Expr} {te : TE} {me : DTE} {pos : Pos} (hg : X.A.guards = some []) (hu : X.A.units + 100 < cLine) (he : DE X C e te me) {K0 : Fg} (hK0 : X.K = K0 := by rfl) (hK : K0 = C.K := by rfl) : DE X C (.FormattedValue e (-1) none pos) (tFmtD K0 te) (mFmt me) := by
  subst hK0
  exact ⟨pe_fmtD hg hu he.pe, by rw [hK]; exact sim_fmt he.sim⟩
theorem de_joined {v1 v2 : Expr} {rest : List Expr} {ts : List TE} {ms : List DTE} {pos : Pos} (h : DJ X C (v1 :: v2 :: rest) ts ms) : DE X C (.JoinedStr (v1 :: v2 :: rest) pos) (fun σ H Q => tJs ts Str.empty σ H fun out H1 => Q (.str out) H1) (mJoined ms) :=
  ⟨pe_joined h.pj, fun Γ O σ H Qd Q R q k => sim_js h Str.empty Γ O σ H _ _ R q fun y Γ1 H1 R1 e1 q1 => k (.val (.str y)) Γ1 _ H1 ⟨R1, .str _⟩ (.val e1) q1⟩
end
/-! ### rules and steps -/
section
variable {C0 : Addr} {sd : DSp} {m ma : DTE} {ms : List DTE} {Γ : Env} {Q : QE} {r : Res} {d : D} {acc : Str}
def rok (C0 : Addr) (sd : DSp) (r : Res) (Γ1 : Env) (Q : QE) : Prop := ∃ ns ds, dat r = some (.obj C0 ns ds) ∧ sd [.obj C0 ns ds] (rpk Γ1 Q) noX
theorem e_ReprO (h : ma Γ fun r Γ1 => rok C0 sd r Γ1 Q) : mReprO C0 sd ma Γ Q := h
theorem e_reprO {ns : List Str} {ds : List D} (h1 : dat r = some (.obj C0 ns ds)) (h : sd [.obj C0 ns ds] (rpk Γ Q) noX) : rok C0 sd r Γ Q := ⟨ns, ds, h1, h⟩
def lok (C0 : Addr) (sd : DSp) (r : Res) (Γ1 : Env) (Q : QE) : Prop := ∃ ns ds, dat r = some (.obj C0 ns ds) ∧ sd [.obj C0 ns ds] (lnk Γ1 Q) noX
theorem e_LenO (h : ma Γ fun r Γ1 => lok C0 sd r Γ1 Q) : mLenO C0 sd ma Γ Q := h
theorem e_lenO {ns : List Str} {ds : List D} (h1 : dat r = some (.obj C0 ns ds)) (h : sd [.obj C0 ns ds] (lnk Γ Q) noX) : lok C0 sd r Γ Q := ⟨ns, ds, h1, h⟩
def fmk (r : Res) (Γ1 : Env) (Q : QE) : Prop := ∃ d y, rd Γ1 r = some d ∧ fmtD d = some y ∧ Q (.val (.str y)) Γ1
theorem e_Fmt (h : ma Γ fun r Γ1 => fmk r Γ1 Q) : mFmt ma Γ Q := h
theorem e_fmtL {ds : List D} (h1 : rd Γ r = some (.lst ds)) (h2 : okR (.lst ds) = true) (h : Q (.val (.str (toPy (.lst ds)).shown)) Γ) : fmk r Γ Q := ⟨_, _, h1, if_pos h2, h⟩
theorem e_Joined (h : mJs ms Str.empty Γ fun y Γ1 => Q (.val (.str y)) Γ1) : mJoined ms Γ Q := h
theorem e_jsN {Qs : Str → Env → Prop} (h : Qs acc Γ) : mJs [] acc Γ Qs := h
def jsk (ms : List DTE) (acc : Str) (r : Res) (Γ1 : Env) (Qs : Str → Env → Prop) : Prop := ∃ y, r = .val (.str y) ∧ (acc ++ y).length ≤ 1000000 ∧ mJs ms (acc ++ y) Γ1 Qs
theorem e_Js {Qs : Str → Env → Prop} (h : m Γ fun r Γ1 => jsk ms acc r Γ1 Qs) : mJs (m :: ms) acc Γ Qs := h
theorem e_js {Qs : Str → Env → Prop} {y : Str} (h1 : (acc ++ y).length ≤ 1000000) (h : mJs ms (acc ++ y) Γ Qs) : jsk ms acc (.val (.str y)) Γ Qs := ⟨y, rfl, h1, h⟩
end
end DL
/-! the data layer, part 33: places are looked at as shared data while one expression that answers a plain value is read -/
namespace DL
open PySem PySem.Spec PyProof.Rows L2
def shS : Sl → Sl
  | .no => .no
  | .sh d => .sh d
  | .ow d => .sh d
  | .io d => .sh d
  | .bo d => .sh d
  | .pn _ _ => .no
  | .st _ => .no
def allSh (Γ : Env) : Env := Γ.map shS
def scal : D → Bool
  | .non => true
  | .bl _ => true
  | .int _ => true
  | .str _ => true
  | _ => false
theorem scal_rep {K : Fg} {H H' : Hp} {v : V} {d : D} (h : scal d = true) (r : Rep K H v d) : Rep K H' v d := by
  cases r <;> first | exact .non | exact .bl _ | exact .int _ | exact .str _ | exact nomatch h
def mBor (me : DTE) : DTE := fun Γ Q => me (allSh Γ) fun r _ => ∃ d, r = .val d ∧ scal d = true ∧ Q (.val d) Γ
section
variable {C : Ctx} {Γ : Env} {O : List Addr} {σ : L2.St} {H H' : Hp}
/-- only more is there, and nothing that changes inside -/
def Ext (H H' : Hp) : Prop := (∀ b o, H b = some o → H' b = some o) ∧ ∀ b o, H' b = some o → H b = some o ∨ rootO o = false
theorem Ext.pv {H H' : Hp} {O : List Addr} (e : Ext H H') (p : PvOk H O H) : PvOk H [] H' := by
  have back : ∀ b o, H' b = some o → rootO o = true → H b = some o := fun b o h r => (e.2 b o h).resolve_right fun z => by rw [r] at z; cases z
  have pr : ∀ {o : HO} {l : Addr}, l ∈ privs o → rootO o = true := fun {o l} h => by
    cases q : rootO o with
    | true => rfl
    | false => rw [privs_none q] at h; cases h
  refine ⟨fun b o l h1 h2 => ⟨by simp, ?_⟩, fun a ha => .inr ?_, fun a z q => p.gone q z⟩
  · obtain ⟨_, u, h3, h4⟩ := p.ex b o l (back b o h1 (pr h2)) h2
    exact ⟨u, e.1 l u h3, h4⟩
  · rcases ha with ⟨o, h1, h2⟩ | ⟨b, o, h1, h2⟩
    · exact .inl ⟨o, back a o h1 h2, h2⟩
    · exact .inr ⟨b, o, back b o h1 (pr h2), h2⟩
end
section
variable {Γ Γ' : Env} {Q : QE} {me : DTE}
def bok (Γ : Env) (Q : QE) (r : Res) : Prop := ∃ d, r = .val d ∧ scal d = true ∧ Q (.val d) Γ
theorem e_Bor (h1 : allSh Γ = Γ') (h : me Γ' fun r _ => bok Γ Q r) : mBor me Γ Q := by subst h1; exact h
theorem e_bor {d : D} (h1 : scal d = true) (h : Q (.val d) Γ) : bok Γ Q (.val d) := ⟨d, rfl, h1, h⟩
end
theorem i_addS {x y : Str} {Q : Res → Prop} (h1 : x.length + y.length ≤ 100000) (h : Q (.val (.str (x ++ y)))) : addD (.str x) (.str y) Q := ⟨h1, h⟩
theorem Ni.str {x : Str} {m : Nat} (h : PyData.strOk x = true) (hl : x.length ≤ m) : Ni 0 (10 * m + 5) (.str x) := ⟨by rw [niceD]; exact h, by simp [toPy, PyData.depth], by rw [wtD]; omega⟩
end DL
/-! the data layer, part 34: reversed, zip; new lists that are kept in a list, looked at, and spoiled in the end -/
namespace DL
open PySem PySem.Spec PyProof.Rows L2 RT
/-! ### reversed(e), e a list or a tuple -/
def mRev (ma : DTE) : DTI := fun Γ Q => ma Γ fun r Γ1 => ∃ d ds, rd Γ1 r = some d ∧ itemsOf d = some ds ∧ Q (srcOf d r) ds.reverse Γ1
/-! ### zip of two shared lists -/
def zipD (ds es : List D) : List D := List.zipWith (fun a b => D.tup [a, b]) ds es
def mZip (ma mb : DTE) : DTI := fun Γ Q => ma Γ fun r Γ1 => mb Γ1 fun r2 Γ2 => ∃ ds es, dat r = some (.lst ds) ∧ dat r2 = some (.lst es) ∧ Q (.v2 (.lst ds) (.lst es)) (zipD ds es) Γ2
/-! ### a box: what stands before stays, what is new is thrown away -/
def boxS : Sl → Sl
  | .no => .no
  | .sh d => .bo d
  | .ow d => .bo d
  | .io d => .bo d
  | .bo d => .bo d
  | .pn _ _ => .no
  | .st _ => .no
def noPn : Sl → Bool
  | .pn _ _ => false
  | .st _ => false
  | _ => true
/-- slots with true are used anew in the box -/
def boxE : List Bool → Env → Env
  | true :: bs, _ :: Γ => .no :: boxE bs Γ
  | false :: bs, s :: Γ => boxS s :: boxE bs Γ
  | _, _ => []
def killE : List Bool → Env → Env
  | true :: bs, _ :: Γ => .no :: killE bs Γ
  | false :: bs, s :: Γ => s :: killE bs Γ
  | _, _ => []
def freeE : List Bool → Env → Bool
  | [], [] => true
  | true :: bs, s :: Γ => freeB [s] 0 && freeE bs Γ
  | false :: bs, s :: Γ => noPn s && freeE bs Γ
  | _, _ => false
/-- a name that stays in the box -/
def mKept (i : Nat) : DTE := fun Γ Q => match Γ[i]? with
  | some (.bo d) => Q (.val d) Γ
  | some (.sh d) => Q (.val d) Γ
  | some (.ow _) => Q (.pl i) Γ
  | _ => False
/-! ### new lists in a list, looked at, then changed -/
def frsD : List Res → Option (List D)
  | [] => some []
  | .fr d :: rs => match frsD rs with
    | some ds => some (d :: ds)
    | none => none
  | _ => none
def lstsOk : List D → Prop
  | [] => True
  | d :: ds => (∃ xs, d = .lst xs ∧ xs.length < 100000) ∧ lstsOk ds
def mScr (f x : Nat) (mask : List Bool) (mp : DTP) (mm : DTS) : DTS := fun D Γ => mp Γ fun rs Γ1 => ∃ ds, frsD rs = some ds ∧ lstsOk ds ∧ ds.length ≤ 1000 ∧ freeE mask Γ1 = true ∧ mask[f]? = some true ∧ mask[x]? = some true ∧ f ≠ x ∧
  mm ⟨fun Γ3 => Γ3.length = Γ1.length ∧ D.nx (killE mask Γ1), fun r Γ3 => Γ3.length = Γ1.length ∧ ∃ d, r = .val d ∧ scal d = true ∧ D.rt (.val d) (killE mask Γ1), fun _ => False, fun _ => False⟩ ((boxE mask Γ1).set f (.bo (.lst ds)))
section
variable {Γ Γ' : Env} {nx bk ct : Env → Prop} {rt : Res → Env → Prop} {Q : QE} {d : D} {mp : DTP} {mm : DTS} {i f x : Nat} {mask : List Bool} {rs : List Res} {ds : List D}
theorem e_kb (h1 : Γ[i]? = some (.bo d)) (h : Q (.val d) Γ) : mKept i Γ Q := by unfold mKept; rw [h1]; exact h
theorem e_ks (h1 : Γ[i]? = some (.sh d)) (h : Q (.val d) Γ) : mKept i Γ Q := by unfold mKept; rw [h1]; exact h
theorem e_ko (h1 : Γ[i]? = some (.ow d)) (h : Q (.pl i) Γ) : mKept i Γ Q := by unfold mKept; rw [h1]; exact h
def sck2 (f x : Nat) (mask : List Bool) (mm : DTS) (nx : Env → Prop) (rt : Res → Env → Prop) (rs : List Res) (Γ1 : Env) : Prop := ∃ ds, frsD rs = some ds ∧ lstsOk ds ∧ ds.length ≤ 1000 ∧ freeE mask Γ1 = true ∧ mask[f]? = some true ∧ mask[x]? = some true ∧ f ≠ x ∧
  mm ⟨fun Γ3 => Γ3.length = Γ1.length ∧ nx (killE mask Γ1), fun r Γ3 => Γ3.length = Γ1.length ∧ ∃ d, r = .val d ∧ scal d = true ∧ rt (.val d) (killE mask Γ1), fun _ => False, fun _ => False⟩ ((boxE mask Γ1).set f (.bo (.lst ds)))
def bxn (Γ : Env) (p : Prop) : Env → Prop := fun Γ3 => Γ3.length = Γ.length ∧ p
def bxr (Γ : Env) (rt : Res → Env → Prop) (Γk : Env) : Res → Env → Prop := fun r Γ3 => Γ3.length = Γ.length ∧ ∃ d, r = .val d ∧ scal d = true ∧ rt (.val d) Γk
theorem b_nx {p : Prop} (h1 : Γ'.length = Γ.length) (h : p) : bxn Γ p Γ' := ⟨h1, h⟩
theorem b_rt {Γk : Env} (h1 : Γ'.length = Γ.length) (h2 : scal d = true) (h : rt (.val d) Γk) : bxr Γ rt Γk (.val d) Γ' := ⟨h1, d, rfl, h2, h⟩
theorem s_Scr (h : mp Γ fun rs Γ1 => sck2 f x mask mm nx rt rs Γ1) : mScr f x mask mp mm (.mk nx rt bk ct) Γ := h
theorem s_scr {Γk : Env} (h1 : frsD rs = some ds) (h2 : ds.length ≤ 1000) (h3 : freeE mask Γ = true) (h4 : mask[f]? = some true ∧ mask[x]? = some true ∧ f ≠ x) (h5 : killE mask Γ = Γk) (h6 : (boxE mask Γ).set f (.bo (.lst ds)) = Γ') (h0 : lstsOk ds)
    (h : mm (.mk (bxn Γ (nx Γk)) (bxr Γ rt Γk) (fun _ => False) (fun _ => False)) Γ') : sck2 f x mask mm nx rt rs Γ := by
  subst h5; subst h6
  exact ⟨ds, h1, h0, h2, h3, h4.1, h4.2.1, h4.2.2, h⟩
def rwk (r : Res) (Γ : Env) (Q : Src → List D → Env → Prop) : Prop := ∃ d ds, rd Γ r = some d ∧ itemsOf d = some ds ∧ Q (srcOf d r) ds.reverse Γ
theorem w_Rev {ma : DTE} {Q : Src → List D → Env → Prop} (h : ma Γ fun r Γ1 => rwk r Γ1 Q) : mRev ma Γ Q := h
theorem w_rvd {r : Res} {Q : Src → List D → Env → Prop} (h1 : rd Γ r = some d) (h2 : itemsOf d = some ds) (h : Q (srcOf d r) ds.reverse Γ) : rwk r Γ Q := ⟨_, _, h1, h2, h⟩
def zpk (r r2 : Res) (Γ : Env) (Q : Src → List D → Env → Prop) : Prop := ∃ ds es, dat r = some (.lst ds) ∧ dat r2 = some (.lst es) ∧ Q (.v2 (.lst ds) (.lst es)) (zipD ds es) Γ
theorem w_Zip {ma mb : DTE} {Q : Src → List D → Env → Prop} (h : ma Γ fun r Γ1 => mb Γ1 fun r2 Γ2 => zpk r r2 Γ2 Q) : mZip ma mb Γ Q := h
theorem w_zip {r r2 : Res} {es : List D} {Q : Src → List D → Env → Prop} (h1 : dat r = some (.lst ds)) (h2 : dat r2 = some (.lst es)) (h : Q (.v2 (.lst ds) (.lst es)) (zipD ds es) Γ) : zpk r r2 Γ Q := ⟨_, _, h1, h2, h⟩
end
end DL
/-! the data layer, part 35: passes of an outcome counted by pairs: plain mathematics -/
namespace DL
open PySem PySem.Spec PyProof.Rows L2
/-! ### slices, any places -/
theorem sIxG {n : Nat} {d : Nat} {k : Int} (h0 : 0 ≤ k) : HT.sIx n d (some k) = min k.toNat n := by
  show (if k < 0 then (k + n).toNat else min k.toNat n) = min k.toNat n
  rw [if_neg (by omega)]
theorem cutG_from {l : List D} {k : Int} (h0 : 0 ≤ k) : DL.cutD l (some k) none = l.drop k.toNat := by
  unfold DL.cutD
  rw [sIxG h0, show HT.sIx l.length l.length none = l.length from rfl, List.take_of_length_le (by rw [List.length_drop]; omega)]
  by_cases h : k.toNat ≤ l.length
  · rw [Nat.min_eq_left h]
  · rw [Nat.min_eq_right (by omega), List.drop_length, List.drop_of_length_le (by omega)]
theorem cutG_to {l : List D} {k : Int} (h0 : 0 ≤ k) : DL.cutD l none (some k) = l.take k.toNat := by
  unfold DL.cutD
  rw [sIxG h0, show HT.sIx l.length 0 none = 0 from rfl, List.drop_zero, Nat.sub_zero]
  by_cases h : k.toNat ≤ l.length
  · rw [Nat.min_eq_left h]
  · rw [Nat.min_eq_right (by omega), List.take_length, List.take_of_length_le (by omega)]
end DL
/-! the data layer, part 36: one statement that only looks at an own list, which is changed later -/
namespace DL
open PySem PySem.Spec PyProof.Rows L2
end DL
/-! the data layer, part 37: comprehensions with two for -/
namespace DL
open PySem PySem.Spec PyProof.Rows L2
theorem wipe_idem (τ : L2.St) : ∀ vs : List Nat, L2.wipe (L2.wipe τ vs) vs = L2.wipe τ vs := by
  intro ws
  induction ws with
  | nil => rfl
  | cons w ws ih =>
    show (L2.wipe ((L2.wipe τ ws).set w none) ws).set w none = (L2.wipe τ ws).set w none
    by_cases hww : w ∈ ws
    · rw [wipe_set hww, ih]
    · have comm : ∀ {us : List Nat} {τ' : L2.St}, w ∉ us → L2.wipe (τ'.set w none) us = (L2.wipe τ' us).set w none := fun {us τ'} => by
        induction us with
        | nil => intro _; rfl
        | cons u us ih2 =>
          intro hn
          unfold L2.wipe
          rw [ih2 fun z => hn (List.mem_cons_of_mem _ z)]
          exact List.set_comm _ _ (fun z => hn (by simp [z]))
      rw [comm hww, List.set_set, ih]
def comp2M (src : Src) (mg : DTG) (mt : DTT) (mi1 : DTI) (mg1 : DTG) (mt1 : DTT) (me : DTE) (vs vs1 : List Nat) (Q : List D → Env → Prop) : List D → List D → Env → Prop
  | [], acc, Γ => srcD Γ src ∧ Q acc Γ
  | x :: xs, acc, Γ => srcD Γ src ∧ okOwn Γ vs = true ∧ mg x (wipeD Γ vs) fun Γ2 => mt Γ2 fun b Γ3 =>
      if b = true then mi1 Γ3 fun src1 items1 Γ4 => compM src1 mg1 mt1 me vs1 (fun acc' Γ5 => comp2M src mg mt mi1 mg1 mt1 me vs vs1 Q xs acc' (restD Γ Γ5 vs)) items1 acc Γ4 else comp2M src mg mt mi1 mg1 mt1 me vs vs1 Q xs acc (restD Γ Γ3 vs)
def mComp2 (mi : DTI) (mg : DTG) (mt : DTT) (mi1 : DTI) (mg1 : DTG) (mt1 : DTT) (me : DTE) (vs vs1 : List Nat) : DTE := fun Γ Q => mi Γ fun src items Γ1 => comp2M src mg mt mi1 mg1 mt1 me vs vs1 (fun acc Γ2 => Q (.fr (.lst acc)) Γ2) items [] Γ1
section
variable {C : Ctx} {Γ : Env} {O : List Addr} {σ : L2.St} {H : Hp} {p : Addr} {o o' : HO}
theorem RelO.swapU (R : RelO { C with U := (p, o) :: C.U } Γ (p :: O) σ H) (h0 : C.H0 p = none) (hU : ∀ q ∈ C.U, q.1 ≠ p) (ht : Tk (some o') := by trivial) : RelO { C with U := (p, o') :: C.U } Γ (p :: O) σ (upd H p o') := by
  have hm := (R.uu _ List.mem_cons_self).2.2
  have RC : RelO C Γ (p :: O) σ H := R.backU fun q hq => List.mem_cons_of_mem _ hq
  have Ru := RC.updFree (o := o') List.mem_cons_self h0 hm hU ht
  refine Ru.congrU fun q hq => ?_
  rcases List.mem_cons.mp hq with z | z
  · subst z; exact ⟨upd_same, List.mem_cons_self, hm⟩
  · exact Ru.uu q z
theorem SrcOk.congrU {U U' : List (Addr × HO)} {g : List Addr → Hp → Prop} {src : Src} (h : SrcOk { C with U := U } Γ O σ H g src) : SrcOk { C with U := U' } Γ O σ H g src := by
  cases src <;> exact h
/-- the turn's target: a value that is yielded -/
theorem ItD_yld {C : Ctx} {J : It} {n : Nat} {gg : List Addr → Hp → Prop} {items : List D} {Γi : Env} {Dd : Addr} {O : List Addr} {σ : L2.St} {Hc H' : Hp} {i : Nat} {x : V} {U : List (Addr × HO)} (itd : ItD C.K J n gg items) (Ri : RelO { C with U := U } Γi (Dd :: O) σ Hc) (gi : gg (Dd :: O) Hc) (hlt : i < n) (hil : i < items.length) (y : J.yld i Hc x H') :
    RelO { C with U := U } Γi (Dd :: O) σ H' ∧ Rep C.K (hide (Dd :: O) H') x items[i] ∧ Same (hide (Dd :: O) Hc) (hide (Dd :: O) H') := by
  obtain ⟨d, hd, hx⟩ := itd.yld i _ _ x H' Ri.alT gi hlt y
  have hdi : d = items[i] := by
    rw [List.getElem?_eq_getElem hil] at hd
    exact (Option.some.inj hd).symm
  rw [← hdi]
  rcases hx with ⟨rfl, hx⟩ | ⟨p, pvs, pds, rfl, hp, rfl, hr, rfl⟩
  · exact ⟨Ri, hx, L2.Same.refl _⟩
  · exact ⟨Ri.alloc hp, .tup (by rw [hide_out (Ri.notin hp) ((Ri.alloc hp (o := .tup pvs)).npvT upd_same)]; exact upd_same) (hr.mono (hide_new hp rfl)), hide_new hp rfl⟩
end
section
variable {C : Ctx}
theorem sim_comp2 {wi wi1 : TI} {g g1 : TG} {tt tt1 : TT} {te : TE} {vs vs1 : List Nat} {mi mi1 : DTI} {mg mg1 : DTG} {mt mt1 : DTT} {me : DTE} (hi : SimI C wi mi) (hg : ∀ U, SimG { C with U := U } g mg) (hgo : OwnG g vs) (ht : ∀ U, SimT { C with U := U } tt mt) (hi1 : ∀ U, SimI { C with U := U } wi1 mi1) (hg1 : ∀ U, SimG { C with U := U } g1 mg1) (hgo1 : OwnG g1 vs1) (ht1 : ∀ U, SimT { C with U := U } tt1 mt1) (he : ∀ U, SimE { C with U := U } te me)
    (hgm : ∀ (v : V) (σ : L2.St) (H : Hp) (Q Q' : L2.St → Hp → Prop), (∀ σ H, Q σ H → Q' σ H) → g v σ H Q → g v σ H Q') (hgm1 : ∀ (v : V) (σ : L2.St) (H : Hp) (Q Q' : L2.St → Hp → Prop), (∀ σ H, Q σ H → Q' σ H) → g1 v σ H Q → g1 v σ H Q') : SimE C (tLc2 wi g tt wi1 g1 tt1 te vs vs1) (mComp2 mi mg mt mi1 mg1 mt1 me vs vs1) := fun Γ O σ H Qd Q R h k => by
  refine hi Γ O σ H _ _ R h fun src items Γ1 J H1 n gg R1 e1 itd sok q => ?_
  intro Dd hD
  have h0 : C.H0 Dd = none := R1.fresh0 hD
  have hDO : Dd ∉ O := R1.notin hD
  have hU : ∀ q ∈ C.U, q.1 ≠ Dd := fun q hq => ne_of_none (R1.uu q hq).1 hD
  have hM1 : ∀ i, ¬ MutAt Γ1 σ i Dd := fun i hm => hDO (R1.mutIn hm)
  let QQ : List D → Env → Prop := fun acc Γ2 => Qd (.fr (.lst acc)) Γ2
  let Wp : Nat → Nat → Hp → Prop := fun i m Hc => m = n - i ∧ i ≤ n ∧ ∃ (acc : List D) (vacc : List V) (Γi : Env), RelO { C with U := (Dd, .lst vacc) :: C.U } Γi (Dd :: O) σ Hc ∧ Same (hide O H1) (hide (Dd :: O) Hc) ∧ Reps C.K (hide (Dd :: O) Hc) vacc acc ∧
    comp2M src mg mt mi1 mg1 mt1 me vs vs1 QQ (items.drop i) acc Γi
  refine ⟨Wp, ⟨n, by simp, Nat.zero_le _, [], [], Γ1, ?_, hide_newO hD rfl, .nil, q⟩, ?_⟩
  · refine (R1.allocO hD).congrU fun q hq => ?_
    rcases List.mem_cons.mp hq with z | z
    · subst z; exact ⟨upd_same, List.mem_cons_self, hM1⟩
    · exact (R1.allocO hD).uu q z
  rintro i m Hc ⟨rfl, hin, acc, vacc, Γi, Ri, ei, ri, qi⟩
  have RC : RelO C Γi (Dd :: O) σ Hc := Ri.backU fun q hq => List.mem_cons_of_mem _ hq
  have hDc : Hc Dd = some (.lst vacc) := (Ri.uu _ List.mem_cons_self).1
  have hDm : ∀ i, ¬ MutAt Γi σ i Dd := (Ri.uu _ List.mem_cons_self).2.2
  by_cases hlt : i < n
  · have hil : i < items.length := by rw [itd.len]; exact hlt
    have ed : items.drop i = items[i] :: items.drop (i + 1) := List.drop_eq_getElem_cons hil
    rw [ed] at qi
    obtain ⟨hs, hk, qi⟩ := qi
    have gi : gg (Dd :: O) Hc := sok.at ei RC hs
    refine .inr ⟨itd.go i _ _ gi hlt, fun H' => Wp (i + 1) (n - (i + 1)) H', fun H' w => ⟨n - (i + 1), by omega, w⟩, fun x H' y => ?_⟩
    obtain ⟨R', r', e'⟩ := ItD_yld itd Ri gi hlt hil y
    refine hgm _ _ _ _ _ (fun σ2 H2 q2 => ?_) (hgo _ _ _ _ (hg _ (wipeD Γi vs) (Dd :: O) (L2.wipe σ vs) H' x items[i] _ (fun σ2 H2 => ∃ Γ2, RelO { C with U := (Dd, .lst vacc) :: C.U } Γ2 (Dd :: O) σ2 H2 ∧ Same (hide (Dd :: O) H') (hide (Dd :: O) H2) ∧ mt Γ2 fun b Γ3 =>
        if b = true then mi1 Γ3 fun src1 items1 Γ4 => compM src1 mg1 mt1 me vs1 (fun acc' Γ5 => comp2M src mg mt mi1 mg1 mt1 me vs vs1 QQ (items.drop (i + 1)) acc' (restD Γi Γ5 vs)) items1 acc Γ4 else comp2M src mg mt mi1 mg1 mt1 me vs vs1 QQ (items.drop (i + 1)) acc (restD Γi Γ3 vs))
        (R'.wipe hk) r' qi fun Γ2 σ2 H2 R2 e2 q2 => ⟨Γ2, R2, e2, q2⟩))
    obtain ⟨hw, Γ2, R2, e2, q2⟩ := q2
    have hw' : L2.wipe σ2 vs = L2.wipe σ vs := hw.trans (wipe_idem σ vs)
    refine ⟨hw', ?_⟩
    refine ht _ Γ2 (Dd :: O) σ2 H2 _ _ R2 q2 fun b Γ3 H3 R3 e3 q3 => ?_
    have eAll3 := L2.Same.trans ei (L2.Same.trans e' (L2.Same.trans e2 e3))
    cases b with
    | true =>
      refine hi1 _ Γ3 (Dd :: O) σ2 H3 _ _ R3 q3 fun src1 items1 Γ4 J1 H4 n1 gg1 R4 e4 itd1 sok1 q4 => ?_
      have eB : Same (hide (Dd :: O) H') (hide (Dd :: O) H4) := L2.Same.trans e2 (L2.Same.trans e3 e4)
      let W1 : Nat → Nat → Hp → Prop := fun j m Hj => m = n1 - j ∧ j ≤ n1 ∧ ∃ (acc : List D) (vacc : List V) (Γj : Env), RelO { C with U := (Dd, .lst vacc) :: C.U } Γj (Dd :: O) σ2 Hj ∧ Same (hide (Dd :: O) H4) (hide (Dd :: O) Hj) ∧ Reps C.K (hide (Dd :: O) Hj) vacc acc ∧
        compM src1 mg1 mt1 me vs1 (fun acc' Γ5 => comp2M src mg mt mi1 mg1 mt1 me vs vs1 QQ (items.drop (i + 1)) acc' (restD Γi Γ5 vs)) (items1.drop j) acc Γj
      refine ⟨W1, ⟨n1, by simp, Nat.zero_le _, acc, vacc, Γ4, R4, L2.Same.refl _, ri.mono (L2.Same.trans e' eB), q4⟩, ?_⟩
      rintro j m Hj ⟨rfl, hjn, acj, vacj, Γj, Rj, ej, rj, qj⟩
      have sok1' : SrcOk { C with U := (Dd, .lst vacj) :: C.U } Γ4 (Dd :: O) σ2 H4 gg1 src1 := sok1.congrU
      by_cases hlj : j < n1
      · have hjl : j < items1.length := by rw [itd1.len]; exact hlj
        have ed1 : items1.drop j = items1[j] :: items1.drop (j + 1) := List.drop_eq_getElem_cons hjl
        rw [ed1] at qj
        obtain ⟨hsj, hkj, qj⟩ := qj
        have gj : gg1 (Dd :: O) Hj := sok1'.at ej Rj hsj
        refine .inr ⟨itd1.go j _ _ gj hlj, fun H' => W1 (j + 1) (n1 - (j + 1)) H', fun H' w => ⟨n1 - (j + 1), by omega, w⟩, fun z Hz y1 => ?_⟩
        obtain ⟨Rz, rz, ez⟩ := ItD_yld (C := C) itd1 Rj gj hlj hjl y1
        refine hgm1 _ _ _ _ _ (fun σ3 H5 q5 => ?_) (hgo1 _ _ _ _ (hg1 _ (wipeD Γj vs1) (Dd :: O) (L2.wipe σ2 vs1) Hz z items1[j] _ (fun σ3 H5 => ∃ Γ5, RelO { C with U := (Dd, .lst vacj) :: C.U } Γ5 (Dd :: O) σ3 H5 ∧ Same (hide (Dd :: O) Hz) (hide (Dd :: O) H5) ∧ mt1 Γ5 fun b Γ6 =>
            if b = true then me Γ6 fun r Γ7 => ∃ d, dat r = some d ∧ acj.length < 100000 ∧ compM src1 mg1 mt1 me vs1 (fun acc' Γ5 => comp2M src mg mt mi1 mg1 mt1 me vs vs1 QQ (items.drop (i + 1)) acc' (restD Γi Γ5 vs)) (items1.drop (j + 1)) (acj ++ [d]) (restD Γj Γ7 vs1) else compM src1 mg1 mt1 me vs1 (fun acc' Γ5 => comp2M src mg mt mi1 mg1 mt1 me vs vs1 QQ (items.drop (i + 1)) acc' (restD Γi Γ5 vs)) (items1.drop (j + 1)) acj (restD Γj Γ6 vs1))
            (Rz.wipe hkj) rz qj fun Γ5 σ3 H5 R5 e5 q5 => ⟨Γ5, R5, e5, q5⟩))
        obtain ⟨hw1, Γ5, R5, e5, q5⟩ := q5
        have hw1' : L2.wipe σ3 vs1 = L2.wipe σ2 vs1 := hw1.trans (wipe_idem σ2 vs1)
        refine ⟨hw1', ?_⟩
        refine ht1 _ Γ5 (Dd :: O) σ3 H5 _ _ R5 q5 fun b Γ6 H6 R6 e6 q6 => ?_
        have eAll6 := L2.Same.trans ej (L2.Same.trans ez (L2.Same.trans e5 e6))
        cases b with
        | true =>
          refine he _ Γ6 (Dd :: O) σ3 H6 _ _ R6 q6 fun r Γ7 w H7 R7 e7 q7 => ?_
          obtain ⟨dy, hdy, hacc, q7⟩ := q7
          have ry : Rep C.K (hide (Dd :: O) H7) w dy := R7.pend.dat hdy
          have hD7 : H7 Dd = some (.lst vacj) := (R7.rel.uu _ List.mem_cons_self).1
          have e8 : hide (Dd :: O) (upd H7 Dd (.lst (vacj ++ [w]))) = hide (Dd :: O) H7 := hide_mut List.mem_cons_self (R7.rel.nr List.mem_cons_self) rfl
          have racc : Reps C.K (hide (Dd :: O) H7) vacj acj := rj.mono (L2.Same.trans ez (L2.Same.trans e5 (L2.Same.trans e6 e7.1)))
          refine ⟨vacj, hD7, by rw [racc.length]; exact Nat.lt_of_lt_of_le hacc (by decide), rfl, hlj, acj ++ [dy], vacj ++ [w], restD Γj Γ7 vs1, ?_, ?_, ?_, q7⟩
          · exact (Rz.rest (L2.Same.trans e5 (L2.Same.trans e6 e7.1)) R7.rel hw1' hkj).swapU h0 hU
          · rw [e8]; exact L2.Same.trans eAll6 e7.1
          · rw [e8]; exact racc.append (.cons ry .nil)
        | false =>
          exact ⟨rfl, hlj, acj, vacj, restD Γj Γ6 vs1, Rz.rest (L2.Same.trans e5 e6) R6 hw1' hkj, eAll6, rj.mono (L2.Same.trans ez (L2.Same.trans e5 e6)), q6⟩
      · have e : j = n1 := by omega
        subst e
        rw [List.drop_of_length_le (l := items1) (by rw [itd1.len]; exact Nat.le_refl _)] at qj
        obtain ⟨hsj, qj⟩ := qj
        refine .inl ⟨itd1.stop _ _ (sok1'.at ej Rj hsj), rfl, hlt, acj, vacj, restD Γi Γj vs, ?_, L2.Same.trans ei (L2.Same.trans e' (L2.Same.trans eB ej)), rj, qj⟩
        have R'' : RelO { C with U := (Dd, .lst vacj) :: C.U } Γi (Dd :: O) σ (upd H' Dd (.lst vacj)) := R'.swapU h0 hU
        have e9 : hide (Dd :: O) (upd H' Dd (.lst vacj)) = hide (Dd :: O) H' := hide_mut List.mem_cons_self (R'.nr List.mem_cons_self) rfl
        exact R''.rest (by rw [e9]; exact L2.Same.trans eB ej) Rj hw' hk
    | false =>
      exact ⟨rfl, hlt, acc, vacc, restD Γi Γ3 vs, R'.rest (L2.Same.trans e2 e3) R3 hw' hk, eAll3, ri.mono (L2.Same.trans e' (L2.Same.trans e2 e3)), q3⟩
  · have e : i = n := by omega
    subst e
    rw [List.drop_of_length_le (by rw [itd.len]; exact Nat.le_refl _)] at qi
    obtain ⟨hs, qi⟩ := qi
    refine .inl ⟨itd.stop _ _ (sok.at ei RC hs), ?_⟩
    obtain ⟨RO, eO⟩ := RC.letgo (O' := O) h0 hDm hU fun a => ⟨fun ha => ⟨List.mem_cons_of_mem _ ha, fun z => hDO (z ▸ ha)⟩, fun ha => (List.mem_cons.mp ha.1).resolve_left ha.2⟩
    exact k (.fr (.lst acc)) Γi (.ref Dd) Hc ⟨RO, Dd, .lst vacc, rfl, hDc, hDO, h0, .lst ri, RC⟩ (.fr (L2.Same.trans e1 ei)) qi
end
section
variable {X : Cx} {C : Ctx} {elt tg iter tg1 iter1 : Expr} {pos : Pos} {wi wi1 : TI} {g g1 : TG} {tt tt1 : TT} {te : TE} {mi mi1 : DTI} {mg mg1 : DTG} {mt mt1 : DTT} {me : DTE} {ifs ifs1 : List Expr} {scope : Scope} {own : List (Str × Nat)} {vs1 : List Nat}
/-- the parts of a comprehension with two for -/
structure DL2 (X : Cx) (C : Ctx) (elt tg iter : Expr) (ifs : List Expr) (tg1 iter1 : Expr) (ifs1 : List Expr) (scope : Scope) (own : List (Str × Nat)) (vs1 : List Nat) (wi : TI) (g : TG) (tt : TT) (wi1 : TI) (g1 : TG) (tt1 : TT) (te : TE) (mi : DTI) (mg : DTG) (mt : DTT) (mi1 : DTI) (mg1 : DTG) (mt1 : DTT) (me : DTE) : Prop where
  calm : X.calm = true
  nd : X.N.Nodup
  hi : DI X C tg iter wi mi
  ok : BlkOk X.N X.env.scope scope own
  hv : ∀ i ∈ vs1, i ∈ own.map (·.2)
  hg : ∀ (U : List (Addr × HO)) (s : Shared) (H : Hp) (A : Addr) (cl : List (Str × Addr)) (fp : List Addr), DG (X.blk s H scope (compEnvC scope cl A X.env) fp) { C with U := U } tg g mg
  hgo : OwnG g (own.map (·.2))
  hgm : ∀ (v : V) (σ : L2.St) (H : Hp) (Q Q' : L2.St → Hp → Prop), (∀ σ H, Q σ H → Q' σ H) → g v σ H Q → g v σ H Q'
  ht : ∀ (U : List (Addr × HO)) (s : Shared) (H : Hp) (A : Addr) (cl : List (Str × Addr)) (fp : List Addr), DF (X.blk s H scope (compEnvC scope cl A X.env) fp) { C with U := U } ifs tt mt
  hi1 : ∀ (U : List (Addr × HO)) (s : Shared) (H : Hp) (A : Addr) (cl : List (Str × Addr)) (fp : List Addr), DI (X.blk s H scope (compEnvC scope cl A X.env) fp) { C with U := U } tg1 iter1 wi1 mi1
  hg1 : ∀ (U : List (Addr × HO)) (s : Shared) (H : Hp) (A : Addr) (cl : List (Str × Addr)) (fp : List Addr), DG (X.blk s H scope (compEnvC scope cl A X.env) fp) { C with U := U } tg1 g1 mg1
  hgo1 : OwnG g1 vs1
  hgm1 : ∀ (v : V) (σ : L2.St) (H : Hp) (Q Q' : L2.St → Hp → Prop), (∀ σ H, Q σ H → Q' σ H) → g1 v σ H Q → g1 v σ H Q'
  ht1 : ∀ (U : List (Addr × HO)) (s : Shared) (H : Hp) (A : Addr) (cl : List (Str × Addr)) (fp : List Addr), DF (X.blk s H scope (compEnvC scope cl A X.env) fp) { C with U := U } ifs1 tt1 mt1
  he : ∀ (U : List (Addr × HO)) (s : Shared) (H : Hp) (A : Addr) (cl : List (Str × Addr)) (fp : List Addr), DE (X.blk s H scope (compEnvC scope cl A X.env) fp) { C with U := U } elt te me
theorem DL2.sim (h : DL2 X C elt tg iter ifs tg1 iter1 ifs1 scope own vs1 wi g tt wi1 g1 tt1 te mi mg mt mi1 mg1 mt1 me) (s : Shared) : SimE C (tLc2 wi g tt wi1 g1 tt1 te (own.map (·.2)) vs1) (mComp2 mi mg mt mi1 mg1 mt1 me (own.map (·.2)) vs1) :=
  sim_comp2 h.hi.sim (fun U => (h.hg U s (fun _ => none) 0 [] []).sim) h.hgo (fun U => (h.ht U s (fun _ => none) 0 [] []).sim) (fun U => (h.hi1 U s (fun _ => none) 0 [] []).sim) (fun U => (h.hg1 U s (fun _ => none) 0 [] []).sim) h.hgo1 (fun U => (h.ht1 U s (fun _ => none) 0 [] []).sim) (fun U => (h.he U s (fun _ => none) 0 [] []).sim) h.hgm h.hgm1
end
section
variable {src : Src} {mi mi1 : DTI} {mg mg1 : DTG} {mt mt1 : DTT} {me : DTE} {vs vs1 : List Nat}
theorem w_Comp2 {Γ : Env} {Q : QE} (h : mi Γ fun src items Γ1 => comp2M src mg mt mi1 mg1 mt1 me vs vs1 (fun acc Γ2 => Q (.fr (.lst acc)) Γ2) items [] Γ1) : mComp2 mi mg mt mi1 mg1 mt1 me vs vs1 Γ Q := h
end
end DL
/-! the data layer, part 38: calls with keywords -/
namespace DL
open PySem PySem.Spec PyProof.Rows L2
end DL
/-! the data layer, part 39: exceptions -/
namespace DL
open PySem PySem.Spec PyProof.Rows L2
/-- what must hold where an exception arises: its class by name, its fields, the slots -/
abbrev Dwx := Str → List (Str × D) → Env → Prop
abbrev noW : Dwx := fun _ _ _ => False
abbrev emH : Hp := fun _ => none
/-- the dict of an exception in the air, amid a def's body -/
def XdAt (C : Ctx) (H : Hp) (d : Option Addr) (fds : List (Str × D)) : Prop := (d = none ∧ fds = []) ∨ ∃ dx fvs, d = some dx ∧ C.H0 dx = none ∧ H dx = some (.xd fvs) ∧ fvs.map (·.1) = fds.map (·.1) ∧ Reps C.K emH (fvs.map (·.2)) (fds.map (·.2))
structure WLink (C : Ctx) (W : WX) (Wd : Dwx) : Prop where
  go : ∀ n c d fds Γ O σ H, RelO C Γ O σ H → XNm C.K n c → XdAt C H d fds → Wd n fds Γ → W (.ref c) d σ H
theorem WLink.no {C : Ctx} {W : WX} : WLink C W noW := ⟨fun _ _ _ _ _ _ _ _ _ _ _ h => h.elim⟩
/-! ### calls that may raise -/
def mCallX (Wd : Dwx) (ms : List Md) (sd : DSp) (ma : DTA) : DTE := fun Γ Q => ma Γ fun rs Γ1 => ∃ ds, argsD Γ1 ms rs = some ds ∧ apartB ms rs = true ∧
  sd ds (fun b d ds' => ∃ Γ2, putsD (mPls ms rs) ds' Γ1 = some Γ2 ∧ Q (if b = true then frOf d else .val d) Γ2) (fun n fds ds' => ∃ Γ2, putsD (mPls ms rs) ds' Γ1 = some Γ2 ∧ Wd n fds Γ2)
section
variable {C : Ctx} {W : WX} {Wd : Dwx} {t : TA} {ma : DTA} {ms : List Md} {sd : DSp}
theorem xd_at {H H1 : Hp} {Γ : Env} {O : List Addr} {σ : L2.St} {d : Option Addr} {fds : List (Str × D)} (R : RelO C Γ O σ H) (h : XdOk C.K H H1 d fds) : XdAt C H1 d fds := by
  rcases h with h | ⟨dx, fvs, h1, h2, h3, h4, h5⟩
  · exact .inl h
  · exact .inr ⟨dx, fvs, h1, R.fresh0 h2, h3, h4, h5⟩
end
/-! ### a def that may raise -/
def wEnd (ms : List Md) (Ed : EdT) : Dwx := fun n fds Γ => Ed n fds (iosD ms Γ)
section
variable {P : Program} {w : World} {K : Fg} {mg : Str → Option Value} {base : Heap} {k : Nat} {f : Addr} {fd : FuncData} {ps : List Str}
theorem fn_dx {x qual : Str} {st : Stmt} {N : List Str} {ms : List Md} {sd : DSp} {m : Dwx → DTS} (F : Fun K x qual st f fd) (S : FnScope N ps (defScope st)) (hl : (strip ms).length = ps.length)
    (hv : ∀ ds Qd Ed, ds.length = ms.length → sd ds Qd Ed → m (wEnd ms Ed) (endsD ms Qd) (startD N ms ds))
    (body : ∀ (cdv : Value) (A : Around) (outer : List PySem.Env) (s : Shared) (H0 : Hp) (vs : List V) (E : XK) (O : List Addr) (Wd : Dwx), (A.deeper (envOfC qual (defScope st) s.heap.objs.size f cdv)).guards = some [] → Room k (A.deeper (envOfC qual (defScope st) s.heap.objs.size f cdv)) →
      PassesOwn (model P w) (cxOf (L2N.CX P w) P w K mg base N qual (defScope st) f cdv A outer s H0 E).A (cxOf (L2N.CX P w) P w K mg base N qual (defScope st) f cdv A outer s H0 E).env (cxOf (L2N.CX P w) P w K mg base N qual (defScope st) f cdv A outer s H0 E).xe →
      Takes (cxOf (L2N.CX P w) P w K mg base N qual (defScope st) f cdv A outer s H0 E) (fun cls d _ H => E cls d H) → WLink (ctx0 K O H0 ms vs) (fun cls d _ H => E cls d H) Wd →
      ∃ t, DSs (cxOf (L2N.CX P w) P w K mg base N qual (defScope st) f cdv A outer s H0 E) (ctx0 K O H0 ms vs) (defBody st) t (m Wd)) (wf : wfG ms = true := by rfl) (hN : ms.length ≤ N.length := by decide) : FnG P w K mg base (k + 1) f fd ps (spD K ms sd) :=
  fn_g F S (spD_len hl) fun cdv A outer s H vs Q E hg hr hsp => by
    obtain ⟨O, ds, S0, Qd, Ed, AO, al, nd, hS0, hsd, post, postx⟩ := hsp
    have wl : WLink (ctx0 K O H ms vs) (fun cls d _ H => E cls d H) (wEnd ms Ed) := ⟨fun n c d fds Γ O' σ H' R hn hx hw => by
      obtain ⟨p, m, S', hS, e⟩ := post_of wf AO R
      refine postx n c d H' O' fds _ S' p m hS hn ?_ (by rw [← e]; exact hw)
      rcases hx with hx | ⟨dx, fvs, h1, h2, h3, h4, h5⟩
      · exact .inl hx
      · exact .inr ⟨dx, fvs, h1, h2, h3, h4, h5⟩⟩
    obtain ⟨t, d⟩ := body cdv A outer s H vs E O (wEnd ms Ed) hg hr (passes_of rfl) (takes_of rfl rfl rfl rfl) wl
    exact ⟨t, d.pss, d.sim _ _ _ _ _ _ (relO_start AO al nd wf hS0 hN) (hv _ Qd Ed (stoL_len wf AO.len.2) hsd) (link_end wf AO post)⟩
end
end DL
/-! the data layer, part 40: raise, try .. except -/
namespace DL
open PySem PySem.Spec PyProof.Rows L2
/-! ### own exception classes that keep their arguments as fields -/
structure XcK (K : Fg) (C fI : Addr) (fs : List Str) : Prop where
  ox : OexC K C
  iC : PySem.W.findIn K (.ref C) "__init__" = some (some (.ref fI))
  tI : PySem.W.typeIn K (.ref fI) = some (.type "function")
  no : ∀ f ∈ fs, PySem.W.findIn K (.ref C) f = some none
abbrev flds (fs : List Str) {α : Type} (vs : List α) : List (Str × α) := (fs.zip vs).reverse
/-- what the own __init__ promises -/
def spXI (K : Fg) (fs : List Str) : Sp := fun vs H Q E => ∃ (a C : Addr) (ys : List V), vs = .ref a :: ys ∧ ys.length = fs.length ∧ OexC K C ∧ (∀ f ∈ fs, PySem.W.findIn K (.ref C) f = some none) ∧ H a = some (exo a C none) ∧
  ∀ dx, H dx = none → dx ≠ a → Q .non (upd (upd H dx (exd dx (flds fs ys))) a (exo a C (some dx)))
theorem spXI_len {K : Fg} {fs ps : List Str} (hl : ps.length = fs.length + 1) : ∀ vs H Q E, spXI K fs vs H Q E → vs.length = ps.length := fun vs H Q E ⟨a, C, ys, h1, h2, _⟩ => by rw [h1, List.length_cons, h2, hl]
section
variable {X : Cx} {e : Expr} {es : List Expr} {ta : TA} {p p1 p2 pos : Pos} {x : Str}
theorem pe_rinit {pl : Sem Bool} {R : Addr} (hg : Gl X x) (hm : X.mg x = some (.ref R)) (rd : PySem.W.readsIn X.K R (.type "type") = true) (ga : PySem.W.specialIn X.K (.ref R) "__getattribute__" = some (some (.builtin "type.__getattribute__")))
    (vV : PySem.W.findCls X.K (.ref R) (.type "type") "__init__" = some (.val (.builtin "ValueError.__init__"))) (ha : PA X (e :: es) ta) (hdb : (x == ("__debug__" : Str)) = false := by decide)
    (hc : eval (.Call (.Attribute (.Name x p1) "__init__" p2) (e :: es) [] pos) X.env = (do
      let ov ← eval (.Name x p1) X.env
      standAt p2.atName
      let (f, first) ← holding [ov] (getMethod ov "__init__" pl)
      callWith pos f first (backTo pos (starEach (e :: es) X.env)) (backToKw pos (keywordEach [] X.env))) := by rfl)
    (he : starEach (e :: es) X.env = (false, eval e X.env) :: starEach es X.env := by rfl) (hpl : (backTo pos (starEach es X.env)).any (·.1) = false := by rfl) :
    PE X (.Call (.Attribute (.Name x p1) "__init__" p2) (e :: es) [] pos) (tVeI X.K ta) := by
  refine ⟨fun pins s σ H Q I h => ?_⟩
  refine PySem.W.methodCall_KW (ld_glob I hg hm ?_ hdb) hc
  refine PySem.W.method_cls I.kIn ga (PySem.W.cls_value I.kIn rd vV (by decide +kernel) ?_)
  show wpAny _ _ (callWith pos (Value.builtin "ValueError.__init__") [] (backTo pos (starEach (e :: es) X.env)) []) _ _ _
  refine PyProof.Rows.callWith_method1 (thn (ha.run pos pins _ σ H _ (I.tok _) h) fun us s1 ⟨vs, H1, I1, r1, a, C, ws, ev, hl, T, ea, q⟩ => ?_) he hpl
  subst ev
  cases r1 with
  | @cons _ u0 _ ur ra rw' =>
    obtain rfl : u0 = Value.ref a := ra
    have hlen : ur.length ≤ sizeLine := by
      rw [← Paired.length rw', sizeLine_eq]
      omega
    exact oinit_ok T I1 ea hlen fun s' J => ⟨.non, H1, J, rfl, q⟩
end
theorem read_init1 {K : Fg} {f1 m : Str} {vs : List V} {H : Hp} {Q : VK} {E : XK} (h : spXI K [f1] vs H Q E) :
    tSeq (tDrop (tVeI K (tCons (tVar 0) (tCons (tC (.str m)) tNil)))) (tOst K f1 (tVar 0) (tVar 1)) { nx := fun _ H' => Q .non H', rt := Q } (L2.start ["self", f1] vs) H := by
  obtain ⟨a, C, ys, rfl, hl, T, no, ha, q⟩ := h
  match ys, hl with
  | [y], _ =>
    have q2 := fun dx h1 h2 => q dx h1 h2
    refine ⟨_, rfl, a, C, [.str m], rfl, by simp, T, ha, ?_⟩
    refine ⟨_, rfl, _, rfl, a, C, rfl, T, no f1 (by simp), .inl ⟨ha, fun dx h1 h2 => ?_⟩⟩
    exact q2 dx h1 h2
def tMkX (C : Addr) (fs : List Str) (ta : TA) : L2.St → Hp → XK → Prop := fun σ H Q => ta σ H fun vs H1 => vs.length = fs.length ∧ fs.length ≤ 100 ∧ ∀ dx, H1 dx = none → Q (.ref C) (some dx) (upd H1 dx (.xd (flds fs vs)))
theorem xd_upd {H1 : Hp} {a dx C : Addr} {fs : List (Str × V)} {d : Option Addr} (ha : H1 a = none) (hd : dx ≠ a) : upd (del (upd (upd (upd H1 a (exo a C d)) dx (exd dx fs)) a (exo a C (some dx))) a) dx (.xd fs) = upd H1 dx (.xd fs) := by
  funext b
  by_cases hb : b = dx
  · rw [hb, upd_same, upd_same]
  · rw [upd_ne hb, upd_ne hb]
    by_cases hb2 : b = a
    · rw [hb2, del_same, ha]
    · rw [del_ne hb2, upd_ne hb2, upd_ne hb, upd_ne hb2]
section
variable {X : Cx} {e : Expr} {es : List Expr} {ta : TA} {p pos : Pos} {x : Str}
theorem pmk_x {C fI : Addr} {k : Nat} {fd : FuncData} {ps fs : List Str} (M : XcK X.K C fI fs) (F1 : FnG X.prog X.w X.K X.mg X.base k fI fd ps (spXI X.K fs)) (hgu : X.A.guards = some []) (hr : Room (k + 1) X.A) (hb : Binds X.K fd ps []) (hg : Gl X x) (hm : X.mg x = some (.ref C)) (ha : PA X (e :: es) ta)
    (hdb : (x == ("__debug__" : Str)) = false := by decide) (he : starEach (e :: es) X.env = (false, eval e X.env) :: starEach es X.env := by rfl) (hpl : (backTo pos (starEach es X.env)).any (·.1) = false := by rfl) :
    PMk X (.Call (.Name x p) (e :: es) [] pos) (tMkX C fs ta) := by
  intro pins s σ H Q I h
  have T := M.ox
  obtain ⟨nm, q, N, bs, bm, sn, sub, ab, col, dd, k0, k1, k2, k3, k5, hC, hbm⟩ := T.cls
  refine wpAny_Call_Name_kw (ld_glob I hg hm ?_ hdb)
  refine PySem.W.callWith_K (h₀ := X.base) I.ok.mod.kin T.kC (thn (ha.run pos pins s σ H _ I h) fun us s1 ⟨vs, H1, I1, r1, hz, hz2, q1⟩ => ⟨I1.kIn, ?_⟩) he hpl
  show wpAny _ _ (call (.ref C) us) _ _ _
  obtain ⟨hp, g, dr, tk, os⟩ := s1
  have hsz : hp.objs.size ≤ hp.objs.size + 1 := Nat.le_succ _
  have hn : H1 (hp.objs.size + 1) = none := I1.hok.fresh hsz
  have kk : ∀ b o, hp.get? b = some o → ((hp.push (PySem.W.kdv_tup us)).push (PySem.HandSPX.excO C hp.objs.size)).get? b = some o := fun b o e => Heap.get?_push_of_some _ (Heap.get?_push_of_some _ e)
  have hget : ((hp.push (PySem.W.kdv_tup us)).push (PySem.HandSPX.excO C hp.objs.size)).get? (hp.objs.size + 1) = some (PySem.HandSPX.excO C hp.objs.size) := by heap_get
  have I2 : Inv X pins σ (upd H1 (hp.objs.size + 1) (exo (hp.objs.size + 1) C none)) ⟨(hp.push (PySem.W.kdv_tup us)).push (PySem.HandSPX.excO C hp.objs.size), g, dr, tk, os⟩ :=
    I1.laid (t' := tk) (a := hp.objs.size + 1) (o := exo (hp.objs.size + 1) C none) (h' := (hp.push (PySem.W.kdv_tup us)).push (PySem.HandSPX.excO C hp.objs.size)) kk hsz (exo_ok hget)
  have hq : spXI X.K fs (V.ref (hp.objs.size + 1) :: vs) (upd H1 (hp.objs.size + 1) (exo (hp.objs.size + 1) C none)) (fun v H2 => v = .non ∧ ∃ (d : Addr) (fl : List (Str × V)), H2 (hp.objs.size + 1) = some (exo (hp.objs.size + 1) C (some d)) ∧ H2 d = some (exd d fl) ∧ H1 d = none ∧ Q (.ref C) (some d) (upd (del H2 (hp.objs.size + 1)) d (.xd fl))) (fun _ _ _ => False) := by
    refine ⟨_, C, vs, rfl, hz, T, M.no, upd_same, fun dx h1 h2 => ⟨rfl, dx, flds fs vs, upd_same, by rw [upd_ne h2]; exact upd_same, ?_, ?_⟩⟩
    · rw [upd_ne h2] at h1; exact h1
    · rw [xd_upd hn h2]
      exact q1 dx (by rw [upd_ne h2] at h1; exact h1)
  have r2 : Vals (V.ref (hp.objs.size + 1) :: vs) (Value.ref (hp.objs.size + 1) :: us) := .cons rfl r1
  have hl : (Value.ref (hp.objs.size + 1) :: us).length = ps.length := by
    have e := r2.length
    rw [F1.len _ _ _ _ hq] at e
    exact e.symm
  have hus : us.length ≤ sizeLine := by
    rw [← Paired.length r1, sizeLine_eq]
    omega
  have hb2 := hb ⟨(hp.push (PySem.W.kdv_tup us)).push (PySem.HandSPX.excO C hp.objs.size), g, dr, tk, os⟩ (Value.ref (hp.objs.size + 1) :: us) I2.kIn (by rw [List.append_nil]; exact hl)
  rw [List.append_nil] at hb2
  refine wpAny_call (PySem.HandSPX.call_own F.excBase_ValueError (fun Y => PySem.HandSPX.refsVE_contains Y bm hbm) (I1.kIn _ _ hC) (PySem.W.looks_findIn I1.kIn M.iC) (fun self => PySem.W.bind_fn I1.kIn self M.tI) hus
    (codeAny_mono (F1.go _ (under_guards.trans hgu) (hr.make C us []) X.stack _ _ ⟨Value.ref (hp.objs.size + 1) :: us, []⟩ (Value.ref (hp.objs.size + 1) :: us) _ _ (fun _ _ _ => False) (I2.env0.make C us []) hb2 r2 hq) fun r s' hq' => ?_))
  cases r with
  | error er =>
    obtain ⟨_, _, _, _, _, _, _, _, _, _, _, _, z⟩ := hq'
    exact z.elim
  | ok fl =>
    cases fl with
    | ret u =>
      obtain ⟨v, H2, os2, bare2, un2, hok2, rv, ev, d, fs, ea, ed, hd1, q2⟩ := hq'
      subst ev
      obtain ⟨h2, g2, d2, t2, os'⟩ := s'
      obtain ⟨t0, G, J, kG, ge, hoe, na⟩ := mk_end0 (d2 := d2) (t2 := t2) I1 hsz kk un2 hok2 os2 bare2 ea ed hd1
      exact ⟨rv, _, _, _, _, _, _, _, rfl, J, kG, ge, hoe, ⟨rfl, rfl, fun us hu => by cases hu; rfl⟩, rfl, rfl, na, rfl, bare2, raises_own T.exC T.tyC, q2⟩
    | next => exact False.elim hq'
    | brk => exact False.elim hq'
    | cont => exact False.elim hq'
end
/-- raise C(..) -/
def mRaise (Wd : Dwx) (n : Str) (fs : List Str) (ma : DTA) : DTS := fun D Γ => ma Γ fun rs Γ1 => ∃ ds, dats rs = some ds ∧ ds.length = fs.length ∧ fs.length ≤ 100 ∧ ds.all scal = true ∧ Wd n (flds fs ds) Γ1
theorem reps_scal {K : Fg} {H H' : Hp} : ∀ {vs : List V} {ds : List D}, Reps K H vs ds → ds.all scal = true → Reps K H' vs ds
  | _, _, .nil, _ => .nil
  | _, _, .cons h t, e => by
    rw [List.all_cons, Bool.and_eq_true] at e
    exact .cons (scal_rep e.1 h) (reps_scal t e.2)
theorem flds_reps {K : Fg} {H : Hp} : ∀ {fs : List Str} {vs : List V} {ds : List D}, Reps K H vs ds → (flds fs vs).map (·.1) = (flds fs ds).map (·.1) ∧ Reps K H ((flds fs vs).map (·.2)) ((flds fs ds).map (·.2))
  | [], vs, ds, h => by simp [flds]; exact .nil
  | f :: fs, _, _, .nil => by simp [flds]; exact .nil
  | f :: fs, _, _, .cons (v := v) (d := d) h t => by
    obtain ⟨h1, h2⟩ := flds_reps (fs := fs) t
    simp only [flds, List.zip_cons_cons, List.reverse_cons, List.map_append, List.map_cons, List.map_nil] at h1 h2 ⊢
    exact ⟨by rw [h1], h2.append (.cons h .nil)⟩
section
variable {X : Cx} {C : Ctx} {W : WX} {Wd : Dwx} {e : Expr} {ta : TA} {ma : DTA} {p pos cpos : Pos} {x : Str}
theorem sim_raise {C0 : Addr} {n : Str} {fs : List Str} (wl : WLink C W Wd) (hn : XNm C.K n C0) (ha : SimA C ta ma) : SimS C (fun _ σ H => tMkX C0 fs ta σ H fun cls d H' => W cls d σ H') (mRaise Wd n fs ma) := fun Γ O σ H D Dd R h L => by
  refine ha Γ O σ H _ _ R h fun rs Γ1 vs H1 R1 p1 e1 q1 => ?_
  obtain ⟨ds, hd, hl, hl2, hs, hw⟩ := q1
  have hr := reps_scal (H' := emH) (dats_ok p1 hd) hs
  refine ⟨by rw [hr.length, hl], hl2, fun dx hx => ?_⟩
  obtain ⟨f1, f2⟩ := flds_reps (fs := fs) hr
  exact wl.go n C0 (some dx) (flds fs ds) Γ1 O σ _ (R1.alloc hx) hn (.inr ⟨dx, _, rfl, R1.fresh0 hx, upd_same, f1, f2⟩) hw
theorem ds_raise {C0 : Addr} {n : Str} {fs : List Str} (hc : X.calm = true) (tk : Takes X W) (wl : WLink C W Wd) (hp : DA X C (e :: es) ta ma → PMk X (.Call (.Name x p) (e :: es) [] cpos) (tMkX C0 fs ta)) (ha : DA X C (e :: es) ta ma) (hn : XNm C.K n C0) :
    DS X C (.Raise (some (.Call (.Name x p) (e :: es) [] cpos)) none pos) (fun _ σ H => tMkX C0 fs ta σ H fun cls d H' => W cls d σ H') (mRaise Wd n fs ma) := ⟨ps_raise hc tk (hp ha), sim_raise wl hn ha.sim⟩
end
/-! ### try .. except C as e -/
/-- which classes an except clause takes -/
def XEx (K : Fg) (C0 : Addr) (tab : List (Str × Bool)) : Prop := ∀ n b, tab.lookup n = some b → ∀ c, XNm K n c → PySem.W.exmOne K (.ref c) (.ref C0) = some b
def xdU (d : Option Addr) (fvs : List (Str × V)) : List (Addr × HO) := match d with
  | some dx => [(dx, HO.xd fvs)]
  | none => []
/-- the suite's context -/
def sctx (C : Ctx) (cls : Value) (n : Str) (d : Option Addr) (fvs : List (Str × V)) : Ctx := { C with U := xdU d fvs ++ C.U, T := (V.int 0, D.xcl cls n) :: C.T }
def mTryAs (i : Nat) (tab : List (Str × Bool)) (mb : Dwx → DTS) (ms : Str → List (Str × D) → Addr → DTS) (Wd : Dwx) : DTS := fun D Γ => mb (fun n fds Γ1 => ∃ b, tab.lookup n = some b ∧
  (b = true → freeB Γ1 i = true ∧ ∀ a, ms n fds a ⟨fun Γ' => freeB Γ' i = true ∧ D.nx (Γ'.set i .no), D.rt, fun Γ' => freeB Γ' i = true ∧ D.bk (Γ'.set i .no), fun Γ' => freeB Γ' i = true ∧ D.ct (Γ'.set i .no)⟩ (Γ1.set i (.sh (.cls a)))) ∧ (b = false → Wd n fds Γ1)) D Γ
def mTry (tab : List (Str × Bool)) (mb : Dwx → DTS) (ms : Str → List (Str × D) → Addr → DTS) (Wd : Dwx) : DTS := fun D Γ => mb (fun n fds Γ1 => ∃ b, tab.lookup n = some b ∧ (b = true → ∀ a, ms n fds a D Γ1) ∧ (b = false → Wd n fds Γ1)) D Γ
section
variable {K : Fg} {H H' : Hp}
/-- the same but for dicts of exceptions -/
def SameX (H H' : Hp) : Prop := ∀ b o, H b = some o → (∀ fv, o ≠ .xd fv) → H' b = some o
theorem SameX.seq (e : SameX H H') {a : Addr} {xs : List V} (h : SqL K H a xs) : SqL K H' a xs := by
  rcases h with (h | ⟨o, h⟩) | h
  · exact .inl (.inl (e _ _ h fun _ z => by cases z))
  · exact .inl (.inr ⟨o, e _ _ h fun _ z => by cases z⟩)
  · exact .inr h
mutual
theorem Rep.monoX (e : SameX H H') : ∀ {v : V} {d : D}, Rep K H v d → Rep K H' v d
  | _, _, .non => .non
  | _, _, .bl b => .bl b
  | _, _, .int i => .int i
  | _, _, .str x => .str x
  | _, _, .cls C => .cls C
  | _, _, .xcl h => .xcl h
  | _, _, .lst h r => .lst (e _ _ h fun _ z => by cases z) (Reps.monoX e r)
  | _, _, .scr h r => .scr (e.seq h) (Reps.monoX e r)
  | _, _, .tup h r => .tup (e _ _ h fun _ z => by cases z) (Reps.monoX e r)
  | _, _, .dic h r => .dic (e _ _ h fun _ z => by cases z) (RepK.monoX e r)
  | _, _, .dit h r => .dit (e _ _ h fun _ z => by cases z) (RepT.monoX e r)
  | _, _, .dkl h r => .dkl (e _ _ h fun _ z => by cases z) (RepK.monoX e r)
  | _, _, .dtl h r => .dtl (e _ _ h fun _ z => by cases z) (RepT.monoX e r)
  | _, _, .pnK h => .pnK (e _ _ h fun _ z => by cases z)
  | _, _, .pnT h => .pnT (e _ _ h fun _ z => by cases z)
  | _, _, .obj h n r => .obj (e _ _ h fun _ z => by cases z) n (Reps.monoX e r)
theorem Reps.monoX (e : SameX H H') : ∀ {vs : List V} {ds : List D}, Reps K H vs ds → Reps K H' vs ds
  | _, _, .nil => .nil
  | _, _, .cons h r => .cons (Rep.monoX e h) (Reps.monoX e r)
theorem RepK.monoX (e : SameX H H') : ∀ {vs : List (Key × V)} {ds : List (Key × D)}, RepK K H vs ds → RepK K H' vs ds
  | _, _, .nil => .nil
  | _, _, .cons h r => .cons (Rep.monoX e h) (RepK.monoX e r)
theorem RepT.monoX (e : SameX H H') : ∀ {vs : List (List Key × V)} {ds : List (List Key × D)}, RepT K H vs ds → RepT K H' vs ds
  | _, _, .nil => .nil
  | _, _, .cons h r => .cons (Rep.monoX e h) (RepT.monoX e r)
end
theorem OwnOk.monoX {o : HO} {d : D} (e : SameX H H') : OwnOk K H o d → OwnOk K H' o d
  | .lst r => .lst (Reps.monoX e r)
  | .dic r => .dic (RepK.monoX e r)
  | .dit r => .dit (RepT.monoX e r)
  | .obj n q r => .obj n q (Reps.monoX e r)
theorem CellOk.monoX {O O' : List Addr} {a : Addr} {d : D} (e : SameX (hide O H) (hide O' H)) : CellOk K O H a d → CellOk K O' H a d := by
  rintro (⟨o, h1, h2, h3⟩ | ⟨C, dx, fs, ex, ns, ds, h1, h2, h3, h4, h5, h6, h7⟩)
  · exact .inl ⟨o, h1, h2.monoX e, h3⟩
  · exact .inr ⟨C, dx, fs, ex, ns, ds, h1, h2, h3, h4, h5.monoX e, h6, h7⟩
end
section
variable {C : Ctx} {Γ : Env} {O : List Addr} {σ : L2.St} {H : Hp} {cls : Value} {n : Str} {d : Option Addr} {fvs : List (Str × V)} {fds : List (Str × D)}
/-- into the suite -/
theorem RelO.suite (R : RelO C Γ O σ H) {c : Addr} (hn : XNm C.K n c) (hx : XdAt C H d fds) : ∃ O2 fvs, RelO (sctx C (.ref c) n d fvs) Γ O2 σ H ∧ (d = none → fds = []) ∧ fvs.map (·.1) = fds.map (·.1) ∧ Reps C.K emH (fvs.map (·.2)) (fds.map (·.2)) := by
  have hT : ∀ {O : List Addr}, RelO C Γ O σ H → ∀ q ∈ (V.int 0, D.xcl (.ref c) n) :: C.T, Rep C.K (hide O H) q.1 q.2 := fun R q hq => by
    rcases List.mem_cons.mp hq with e | e
    · subst e; exact .xcl hn
    · exact R.tt q e
  rcases hx with ⟨rfl, rfl⟩ | ⟨dx, fvs, rfl, h0, hd, hm, hr⟩
  · exact ⟨O, [], (R.congrT (hT R)), fun _ => rfl, rfl, .nil⟩
  · have hn : ∀ i, ¬ MutAt Γ σ i dx := fun i hh => by
      rcases hh with ⟨⟨dd, z | z⟩, e⟩ | ⟨b, P, o, z, e⟩
      · obtain ⟨l, o, h1, _, _, h4, h5⟩ := R.sl i _ z
        rw [e] at h1; cases h1
        rw [hd] at h4; cases h4
        cases h5
      · obtain ⟨l, o, h1, _, _, h4, h5⟩ := R.sl i _ z
        rw [e] at h1; cases h1
        rw [hd] at h4; cases h4
        cases h5
      · obtain ⟨_, h4, _, h5⟩ := (R.sl i _ z).2.1 _ e
        rw [hd] at h4; cases h4
        exact h5
    have sx : SameX (hide O H) (hide (dx :: O) H) := fun b o e nx => by
      obtain ⟨nO, e, nv⟩ := hide_some3 e
      rw [hide_out (fun z => (List.mem_cons.mp z).elim (fun z => by rw [z, hd] at e; cases e; exact nx _ rfl) nO) nv]
      exact e
    refine ⟨dx :: O, fvs, ⟨fun i s es => ?_, R.ds, R.fr, ⟨fun b o l h1 h2 => ⟨fun z => ?_, (R.pv.ex b o l h1 h2).2⟩, R.pv.nw, R.pv.h0⟩, R.pc, R.mm, R.bb, fun a ha => List.mem_cons_of_mem _ (R.oo a ha), fun a ha => ?_, fun a ha => ?_, R.o0, fun q hq => (hT R q hq).monoX sx, fun q hq => ?_, R.len⟩, fun z => (by cases z), hm, hr⟩
    · have q := R.sl i s es
      cases s with
      | no => trivial
      | sh d => obtain ⟨v, h1, h2⟩ := q; exact ⟨v, h1, h2.monoX sx⟩
      | ow d => obtain ⟨l, u, h1, h2, h3, h4, h5⟩ := q; exact ⟨l, u, h1, List.mem_cons_of_mem _ h2, h3, h4, h5.monoX sx⟩
      | io d => obtain ⟨l, u, h1, h2, h3, h4, h5⟩ := q; exact ⟨l, u, h1, h2, List.mem_cons_of_mem _ h3, h4, h5.monoX sx⟩
      | bo d =>
        obtain ⟨v, h1, h2, h3⟩ := q
        refine ⟨v, h1, h2, ?_⟩
        rcases h3 with h3 | ⟨l, u, h3, h4, h5, h6⟩
        · exact .inl (h3.monoX sx)
        · exact .inr ⟨l, u, h3, h4, h5, h6.monoX sx⟩
      | pn b P => exact ⟨q.1, fun c hc => ⟨List.mem_cons_of_mem _ (q.2.1 c hc).1, (q.2.1 c hc).2⟩, fun t ht => (q.2.2 t ht).monoX sx⟩
      | st S => exact ⟨q.1, q.2.1, fun a d hs => (q.2.2 a d hs).monoX sx⟩
    · obtain ⟨h3, u, h4, h5⟩ := R.pv.ex b o l h1 h2
      rcases List.mem_cons.mp z with z | z
      · rw [z, hd] at h4; cases h4; exact h5
      · exact h3 z
    · rcases List.mem_cons.mp ha with z | z
      · rw [z, hd]; rfl
      · exact R.al a z
    · rcases List.mem_cons.mp ha with z | z
      · exact .inr (z ▸ h0)
      · exact R.ol a z
    · rcases List.mem_cons.mp hq with z | z
      · subst z; exact ⟨hd, List.mem_cons_self, hn⟩
      · obtain ⟨u1, u2, u3⟩ := R.uu q z
        exact ⟨u1, List.mem_cons_of_mem _ u2, u3⟩
/-- out of the suite -/
theorem RelO.unsuite (R : RelO (sctx C cls n d fvs) Γ O σ H) : RelO C Γ O σ H := by
  have R1 : RelO { C with U := xdU d fvs ++ C.U } Γ O σ H := RelO.backT (C := { C with U := xdU d fvs ++ C.U }) R fun q hq => List.mem_cons_of_mem _ hq
  exact R1.backU fun q hq => List.mem_append_right _ hq
theorem ROk.unsuite {v : V} {r : Res} (h : ROk (sctx C cls n d fvs) Γ O σ H v r) : ROk C Γ O σ H v r := by
  cases r with
  | val d => exact ⟨h.1.unsuite, h.2⟩
  | fr d =>
    obtain ⟨h1, p, o, e, h2, h3, h4, h5, h6⟩ := h
    exact ⟨h1.unsuite, p, o, e, h2, h3, h4, h5, h6.unsuite⟩
  | pl i => exact ⟨h.1.unsuite, h.2⟩
  | np a ds => exact ⟨h.1.unsuite, h.2⟩
  | hd a => exact ⟨h.1.unsuite, h.2⟩
end
section
variable {X : Cx} {C : Ctx} {i : Nat} {x nm : Str} {C0 : Addr} {tab : List (Str × Bool)} {body suite : List Stmt} {b₀ : Stmt} {np pos pos' : Pos} {tb : WX → TS} {ts : Addr → Value → Option Addr → TS} {mb : Dwx → DTS} {ms : Str → List (Str × D) → Addr → DTS} {Wout : WX} {Wd : Dwx}
/-- some surrounding that takes every exception of the body -/
theorem takes_some (hs : X.stack = X.env :: X.outer) (hf : X.env.frame = some X.env.locals) (W : WX) (pn : List (Addr × Obj)) : ∃ xe, Takes (X.tr pn xe) W ∧ PassesOwn (model X.prog X.w) X.A X.env xe := by
  refine ⟨fun e s₁ => wpAny (model X.prog X.w) X.A (noteFrame e X.env) (fun _ s₂ => wpAny (model X.prog X.w) X.A (setFlight e none) (fun _ _ => True) (fun _ _ => True) s₂) (fun _ _ => True) s₁, fun u s' xx => ?_, PassesOwn.looking⟩
  obtain ⟨a, B, sI, pins', σ', H', cls, d, rfl, J', nb, up, sky, na, os, ag, hw⟩ := xx
  have hfr : X.A.frames = some (X.env :: X.outer) := by rw [← hs]; exact J'.ok.frames
  have sky' : Sky B (X.env :: X.outer) a (Zc cls d) X.env.locals s'.heap := by rw [← hs]; exact sky
  show wpAny (model X.prog X.w) X.A (noteFrame (.ref a) X.env) _ _ _
  exact L2N.Sky.land L2N.Zn.steady hfr hf sky' fun h3 fl3 up3 => trivial
theorem sim_try_as (hs : X.stack = X.env :: X.outer) (hf : X.env.frame = some X.env.locals) (wl : WLink C Wout Wd) (ex : XEx C.K C0 tab)
    (hb : ∀ (W : WX) (Wd : Dwx) (pn : List (Addr × Obj)) (xe : Value → Shared → Prop), Takes (X.tr pn xe) W → PassesOwn (model X.prog X.w) X.A X.env xe → WLink C W Wd → DSs (X.tr pn xe) C body (tb W) (mb Wd))
    (hsu : ∀ (cls : Value) (d : Option Addr) (a : Addr) (n : Str) (fvs : List (Str × V)) (fds : List (Str × D)), (d = none → fds = []) → fvs.map (·.1) = fds.map (·.1) → Reps C.K emH (fvs.map (·.2)) (fds.map (·.2)) → SimS (sctx C cls n d fvs) (ts a cls d) (ms n fds a)) :
    SimS C (fun D σ H => tb (wAs C.K (.ref C0) i ts Wout D) D σ H) (mTryAs i tab mb ms Wd) := fun Γ O σ H D Dd R h L => by
  obtain ⟨xe, tk, po⟩ := takes_some hs hf (wAs C.K (.ref C0) i ts Wout D) ([] : List (Addr × Obj))
  refine (hb _ _ [] xe tk po (⟨fun n c d fds Γ1 O1 σ1 H1 R1 hn hx hw => ?_⟩)).sim Γ O σ H D Dd R h L
  obtain ⟨b, hb, hy, hno⟩ := hw
  refine ⟨b, ex n b hb c hn, fun e a ha => ?_, fun e => wl.go n c d fds Γ1 O1 σ1 H1 R1 hn hx (hno e)⟩
  obtain ⟨hfree, hy⟩ := hy e
  obtain ⟨O2, fvs, R2, h0, h1, h2⟩ := R1.suite hn hx
  refine hsu (.ref c) d a n fvs fds h0 h1 h2 _ O2 _ H1 _ _ (R2.setSh (freeB_of hfree) (.cls a)) (hy a) ⟨fun Γ' O' σ' H' R' q => ?_, fun r Γ' O' σ' H' v hr q => L.rt r Γ' O' σ' H' v hr.unsuite q, fun Γ' O' σ' H' R' q => ?_, fun Γ' O' σ' H' R' q => ?_⟩
  · exact L.nx _ O' _ H' (R'.unsuite.setNo (freeB_of q.1) none) q.2
  · exact L.bk _ O' _ H' (R'.unsuite.setNo (freeB_of q.1) none) q.2
  · exact L.ct _ O' _ H' (R'.unsuite.setNo (freeB_of q.1) none) q.2
theorem ds_try_as (hs : X.stack = X.env :: X.outer) (hf : X.env.frame = some X.env.locals) (hN : X.N.Nodup) (hi : X.N[i]? = some nm) (hln : X.env.kindOf nm = some .local) (hc : Names X x (.ref C0)) (tk : Takes X Wout) (wl : WLink C Wout Wd)
    (hb : ∀ (W : WX) (Wd : Dwx) (pn : List (Addr × Obj)) (xe : Value → Shared → Prop), Takes (X.tr pn xe) W → PassesOwn (model X.prog X.w) X.A X.env xe → WLink C W Wd → DSs (X.tr pn xe) C body (tb W) (mb Wd))
    (hsu : ∀ (a : Addr) (oe : Obj) (cls : Value) (d : Option Addr) (pn : List (Addr × Obj)) (n : Str) (fvs : List (Str × V)) (fds : List (Str × D)), Zc cls d oe → (∃ vs, oe.data = .fields vs) → (d = none → fds = []) → fvs.map (·.1) = fds.map (·.1) → Reps C.K emH (fvs.map (·.2)) (fds.map (·.2)) → DSs (X.suite a ((a, oe) :: pn)) (sctx C cls n d fvs) (b₀ :: suite) (ts a cls d) (ms n fds a))
    {K0 : Fg} (hK0 : X.K = K0 := by rfl) (hK : K0 = C.K := by rfl) (ex : XEx K0 C0 tab) :
    DS X C (.Try body [.ExceptHandler (some (.Name x np)) (some nm) (b₀ :: suite) pos'] [] [] pos) (fun D σ H => tb (wAs K0 (.ref C0) i ts Wout D) D σ H) (mTryAs i tab mb ms Wd) := by
  subst hK0
  refine ⟨ps_try_as hs hf hN hi hln hc tk (fun W pn xe tk po => (hb W noW pn xe tk po .no).pss) (fun a oe cls d pn hz hfl => (hsu a oe cls d pn Str.empty [] [] hz hfl (fun _ => rfl) rfl .nil).pss), ?_⟩
  rw [hK]
  rw [hK] at ex
  exact sim_try_as hs hf wl ex hb fun cls d a n fvs fds h0 h1 h2 => by
    -- an exception's object of that class and dict
    exact (hsu a { cls := cls, dict := d, data := .fields #[.none, .none, .none] } cls d [] n fvs fds ⟨rfl, rfl, fun us hu => by cases hu; rfl⟩ ⟨_, rfl⟩ h0 h1 h2).sim
end
/-! ### in the suite -/
/-- what the classes must be, so that their instances are asked and read -/
def XIs (K : Fg) (T : Value) (tab : List (Str × Bool)) : Prop := ∀ n b, tab.lookup n = some b → ∀ c, XNm K n c → ExcC K c ∧ PySem.W.kitOne K (.ref c) T = some b
def XFd (K : Fg) (f : Str) (ns : List Str) : Prop := ∀ n, n ∈ ns → ∀ c, XNm K n c → XfC K c ∧ PySem.W.findIn K (.ref c) f = some none
/-- isinstance(e, T), e caught -/
def rIsW (K : Fg) (a : Addr) (cls : Value) (d : Option Addr) : List V → Hp → VK → Prop := fun xs H Q => ∃ (c : V) (cv : Value) (b : Bool) (D0 : Addr), xs = [.ref a, c] ∧ (∀ u, RelV c u → u = cv) ∧ cls = .ref D0 ∧ ExcC K D0 ∧ PySem.W.kitOne K (.ref D0) cv = some b ∧ (∀ dx, d = some dx → ∃ fvs, H dx = some (.xd fvs)) ∧ Q (.bl b) H
theorem call_isW {X : Cx} {a : Addr} {oe : Obj} {cls : Value} {d : Option Addr} {pn : List (Addr × Obj)} (hz : Zc cls d oe) (hf : ∃ vs, oe.data = .fields vs) : CallR (X.suite a ((a, oe) :: pn)) (.builtin "isinstance") (rIsW X.K a cls d) := by
  intro pins s σ H xs us Q I r h
  obtain ⟨c, cv, b, D0, rfl, hcv, hcl, C, e, hd, q⟩ := h
  cases r with
  | cons rx rr =>
    cases rr with
    | cons rt rr =>
      cases rr
      cases rx
      have ec := hcv _ rt
      subst ec
      obtain ⟨hget, _⟩ := I.pin (a, oe) (List.mem_append.mpr (.inl List.mem_cons_self))
      obtain ⟨vs, hv⟩ := hf
      have hcls : (PySem.W.clsIn X.K D0).isSome = true := by
        obtain ⟨cd, hc, _⟩ := PySem.W.any_some C.hd
        rw [hc]; rfl
      cases d with
      | none =>
        have J : PySem.W.InstAt s.heap a oe D0 none := by
          obtain ⟨oc, od, oda, osl⟩ := oe
          obtain ⟨h1, h2, _⟩ := hz
          dsimp only at h1 h2 hv
          subst h1 h2 hv
          exact ⟨hget, hcl, rfl, trivial⟩
        exact PySem.W.kia_one (PySem.W.kitx_exc hcls C.hg C.hk C.hs C.ha C.hn C.ht C.hm) I.kIn J e (fun z => nomatch z) fun tk => ⟨.bl b, H, I.kept (t' := tk) fun _ _ z => z, rfl, q⟩
      | some dx =>
        obtain ⟨fvs, hx⟩ := hd dx rfl
        have hx2 : ObjOk X.prog X.w H s.heap dx (.xd fvs) := I.hok dx _ hx
        obtain ⟨mA, hns, hr⟩ := hx2
        obtain ⟨od, ho, hl⟩ := lookIn_ns hns
        have J : PySem.W.InstAt s.heap a oe D0 (some od) := ⟨hget, by rw [hz.1]; exact hcl, by unfold PySem.W.notCls; rw [hv] <;> rfl, by rw [hz.2.1]; exact ho⟩
        exact PySem.W.kia_one (PySem.W.kitx_exc hcls C.hg C.hk C.hs C.ha C.hn C.ht C.hm) I.kIn J e (fun z => nomatch z) fun tk => ⟨.bl b, H, I.kept (t' := tk) fun _ _ z => z, rfl, q⟩
def mXis (n : Str) (a : Addr) (tab : List (Str × Bool)) (mo : DTE) : DTE := fun Γ Q => mo Γ fun r Γ1 => r = .val (.cls a) ∧ ∃ b, tab.lookup n = some b ∧ Q (.val (.bl b)) Γ1
/-- e.f, e caught -/
def tXfW (K : Fg) (a : Addr) (cls : Value) (d : Option Addr) (f : Str) (te : TE) : TE := fun σ H Q => te σ H fun x H1 => x = .ref a ∧ ∃ (C0 dd : Addr) (fs : List (Str × V)) (v : V), cls = .ref C0 ∧ XfC K C0 ∧ PySem.W.findIn K (.ref C0) f = some none ∧ d = some dd ∧ H1 dd = some (.xd fs) ∧ fs.lookup f = some v ∧ Q v H1
theorem pe_xfW {X : Cx} {a : Addr} {oe : Obj} {cls : Value} {d : Option Addr} {pn : List (Addr × Obj)} {e : Expr} {te : TE} {pos : Pos} {n : Str} (hz : Zc cls d oe) (hf : ∃ vs, oe.data = .fields vs) (he : PE (X.suite a ((a, oe) :: pn)) e te) (hb : attributeBase e n X.env (eval e X.env) = eval e X.env := by rfl) :
    PE (X.suite a ((a, oe) :: pn)) (.Attribute e n pos) (tXfW X.K a cls d n te) := by
  refine ⟨fun pins s σ H Q I h => ?_⟩
  refine attr_of hb (thn (he.run pins s σ H _ I h) fun u s1 hh => ?_)
  obtain ⟨x, H1, I1, rx, ex, C, dd, fs, v, ec, T, hno, ed, ea, l, q⟩ := hh
  subst ex
  obtain rfl : u = Value.ref a := rx
  subst ec
  subst ed
  obtain ⟨ha, _⟩ := I1.pin (a, oe) (List.mem_append_left _ List.mem_cons_self)
  obtain ⟨vs, hd⟩ := hf
  have hx : ObjOk X.prog X.w H1 s1.heap dd (.xd fs) := I1.hok dd _ ea
  obtain ⟨mA, hns, hr⟩ := hx
  obtain ⟨od, ho, hl⟩ := lookIn_ns hns
  obtain ⟨u, hu, ru⟩ := L2.RelO.some_of (v := v) (o := mA n) (by rw [← l]; exact hr n)
  have J : PySem.W.InstAt s1.heap a oe C (some od) := ⟨ha, hz.1, by unfold PySem.W.notCls; rw [hd] <;> rfl, by rw [hz.2.1]; exact ho⟩
  exact PySem.HandSPX.exc_get I1.kIn J T.ga T.gg T.exC (PySem.W.findObj_own T.hdC hno rfl (by rw [hl, hu])) (handed_of ru) ⟨v, H1, I1.tok _, ru, q⟩
def mXf (n : Str) (fds : List (Str × D)) (a : Addr) (f : Str) (ns : List Str) (mo : DTE) : DTE := fun Γ Q => mo Γ fun r Γ1 => r = .val (.cls a) ∧ n ∈ ns ∧ ∃ d, fds.lookup f = some d ∧ Q (.val d) Γ1
theorem lookup_reps {K : Fg} {H : Hp} {f : Str} : ∀ {fvs : List (Str × V)} {fds : List (Str × D)} {d : D}, fvs.map (·.1) = fds.map (·.1) → Reps K H (fvs.map (·.2)) (fds.map (·.2)) → fds.lookup f = some d → ∃ v, fvs.lookup f = some v ∧ Rep K H v d
  | [], [], d, _, _, h => by cases h
  | [], _ :: _, d, h, _, _ => by cases h
  | _ :: _, [], d, h, _, _ => by cases h
  | (g, v) :: fvs, (g', e) :: fds, d, h, r, hl => by
    obtain ⟨rfl, h2⟩ : g = g' ∧ fvs.map (·.1) = fds.map (·.1) := by simpa using h
    cases r with
    | cons r1 r2 =>
      rw [List.lookup_cons] at hl ⊢
      cases hb : f == g with
      | true =>
        rw [hb] at hl
        cases hl
        exact ⟨v, rfl, r1⟩
      | false =>
        rw [hb] at hl
        exact lookup_reps h2 r2 hl
section
variable {X : Cx} {C : Ctx} {cls : Value} {d : Option Addr} {n f : Str} {fvs : List (Str × V)} {fds : List (Str × D)} {a : Addr} {to : TE} {mo : DTE} {Γ : Env} {O : List Addr} {σ : L2.St} {H : Hp}
theorem suite_cls (R : RelO (sctx C cls n d fvs) Γ O σ H) : ∃ c, cls = .ref c ∧ XNm C.K n c := by
  have := R.tt (V.int 0, D.xcl cls n) List.mem_cons_self
  cases this with
  | xcl h => exact ⟨_, rfl, h⟩
theorem suite_xd (R : RelO (sctx C cls n d fvs) Γ O σ H) : ∀ dx, d = some dx → H dx = some (.xd fvs) := fun dx e => by
  subst e
  exact (R.uu (dx, .xd fvs) List.mem_cons_self).1
theorem sim_xis {T : V} {cv : Value} {tab : List (Str × Bool)} (hcv : ∀ u, RelV T u → u = cv) (hx : XIs C.K cv tab) (ho : SimE (sctx C cls n d fvs) to mo) : SimE (sctx C cls n d fvs) (tCB (rIsW C.K a cls d) (tCons to (tCons (tC T) tNil))) (mXis n a tab mo) := fun Γ O σ H Qd Q R h k => by
  refine ho Γ O σ H _ _ R h fun r Γ1 x H1 R1 e1 q1 => ?_
  obtain ⟨rfl, b, hb, q⟩ := q1
  obtain ⟨R1, rr⟩ := R1
  cases rr
  obtain ⟨c, hc, hn⟩ := suite_cls R1
  obtain ⟨x1, x2⟩ := hx n b hb c hn
  exact ⟨T, cv, b, c, rfl, hcv, hc, x1, x2, fun dx e => ⟨fvs, suite_xd R1 dx e⟩, k (.val (.bl b)) Γ1 _ H1 ⟨R1, .bl b⟩ (.val e1.1) q⟩
theorem sim_xf {ns : List Str} (hm : fvs.map (·.1) = fds.map (·.1)) (hr : Reps C.K emH (fvs.map (·.2)) (fds.map (·.2))) (hx : XFd C.K f ns) (hd : d = none → fds = []) (ho : SimE (sctx C cls n d fvs) to mo) : SimE (sctx C cls n d fvs) (tXfW C.K a cls d f to) (mXf n fds a f ns mo) := fun Γ O σ H Qd Q R h k => by
  refine ho Γ O σ H _ _ R h fun r Γ1 x H1 R1 e1 q1 => ?_
  obtain ⟨rfl, hns, dd, hl, q⟩ := q1
  obtain ⟨R1, rr⟩ := R1
  cases rr
  obtain ⟨c, hc, hn⟩ := suite_cls R1
  obtain ⟨x1, x2⟩ := hx n hns c hn
  obtain ⟨v, hv, rv⟩ := lookup_reps hm hr hl
  cases hdd : d with
  | none => rw [hd hdd] at hl; cases hl
  | some dx => exact ⟨rfl, c, dx, fvs, v, hc, x1, x2, rfl, suite_xd R1 dx hdd, hv, k (.val dd) Γ1 v H1 ⟨R1, rv.mono fun _ _ z => by cases z⟩ (.val e1.1) q⟩
end
section
variable {X : Cx} {C : Ctx} {cls : Value} {d : Option Addr} {n f x : Str} {fvs : List (Str × V)} {fds : List (Str × D)} {a : Addr} {oe : Obj} {pn : List (Addr × Obj)} {to : TE} {mo : DTE} {o : Expr} {p pos p2 : Pos}
theorem de_xis {T : V} {cv : Value} {tab : List (Str × Bool)} (hz : Zc cls d oe) (hf : ∃ vs, oe.data = .fields vs) (hg : Gl (X.suite a ((a, oe) :: pn)) "isinstance") (hm : (X.suite a ((a, oe) :: pn)).mg "isinstance" = none) (ho : DE (X.suite a ((a, oe) :: pn)) (sctx C cls n d fvs) o to mo) (hT : PE (X.suite a ((a, oe) :: pn)) (.Name x p2) (tC T)) (hcv : ∀ u, RelV T u → u = cv)
    {K0 : Fg} (hK0 : X.K = K0 := by rfl) (hK : K0 = C.K := by rfl) (hx : XIs K0 cv tab)
    (he : starEach [o, .Name x p2] (X.suite a ((a, oe) :: pn)).env = (false, eval o (X.suite a ((a, oe) :: pn)).env) :: starEach [.Name x p2] (X.suite a ((a, oe) :: pn)).env := by rfl) (he2 : starEach [.Name x p2] (X.suite a ((a, oe) :: pn)).env = (false, eval (.Name x p2) (X.suite a ((a, oe) :: pn)).env) :: starEach [] (X.suite a ((a, oe) :: pn)).env := by rfl) (hpl : (backTo pos (starEach [.Name x p2] (X.suite a ((a, oe) :: pn)).env)).any (·.1) = false := by rfl) :
    DE (X.suite a ((a, oe) :: pn)) (sctx C cls n d fvs) (.Call (.Name "isinstance" p) [o, .Name x p2] [] pos) (tCB (rIsW K0 a cls d) (tCons to (tCons (tC T) tNil))) (mXis n a tab mo) := by
  subst hK0
  exact ⟨pe_callB (call_isW hz hf) hg hm (by decide +kernel) (pa_cons ho.pe (pa_cons hT pa_nil he2) he) (he := he) (hpl := hpl), by rw [hK]; exact sim_xis hcv (hK ▸ hx) ho.sim⟩
theorem de_xf {ns : List Str} (hz : Zc cls d oe) (hf : ∃ vs, oe.data = .fields vs) (hd : d = none → fds = []) (hm : fvs.map (·.1) = fds.map (·.1)) (hr : Reps C.K emH (fvs.map (·.2)) (fds.map (·.2))) (ho : DE (X.suite a ((a, oe) :: pn)) (sctx C cls n d fvs) o to mo)
    {K0 : Fg} (hK0 : X.K = K0 := by rfl) (hK : K0 = C.K := by rfl) (hx : XFd K0 f ns) (hb : attributeBase o f X.env (eval o X.env) = eval o X.env := by rfl) :
    DE (X.suite a ((a, oe) :: pn)) (sctx C cls n d fvs) (.Attribute o f pos) (tXfW K0 a cls d f to) (mXf n fds a f ns mo) := by
  subst hK0
  exact ⟨pe_xfW hz hf ho.pe hb, by rw [hK]; exact sim_xf hm hr (hK ▸ hx) hd ho.sim⟩
end
end DL
/-! the data layer, part 41: exceptions: tables of classes, defaults, steps -/
namespace DL
open PySem PySem.Spec PyProof.Rows L2
/-! ### tables -/
section
variable {K : Fg} {N f : Str} {C C0 : Addr} {T : Value} {b : Bool} {tab : List (Str × Bool)} {ns : List Str}
theorem XNm.inj {c c' : Addr} (h : XNm K N c) (h' : XNm K N c') : c = c' := by
  have e : some (some (Value.ref c)) = some (some (Value.ref c')) := h.symm.trans h'
  exact Value.ref.inj (Option.some.inj (Option.some.inj e))
theorem XEx.nil : XEx K C0 [] := fun _ _ h => by cases h
theorem XEx.cons (hN : XNm K N C) (h1 : PySem.W.exmOne K (.ref C) (.ref C0) = some b) (t : XEx K C0 tab) : XEx K C0 ((N, b) :: tab) := fun n b' h c hc => by
  rw [List.lookup_cons] at h
  cases e : n == N with
  | true =>
    rw [e] at h
    have e : n = N := eq_of_beq e
    subst e
    cases h
    rw [hc.inj hN]; exact h1
  | false => rw [e] at h; exact t n b' h c hc
theorem XIs.nil : XIs K T [] := fun _ _ h => by cases h
theorem XIs.cons (hN : XNm K N C) (hE : ExcC K C) (h1 : PySem.W.kitOne K (.ref C) T = some b) (t : XIs K T tab) : XIs K T ((N, b) :: tab) := fun n b' h c hc => by
  rw [List.lookup_cons] at h
  cases e : n == N with
  | true =>
    rw [e] at h
    have e : n = N := eq_of_beq e
    subst e
    cases h
    rw [hc.inj hN]; exact ⟨hE, h1⟩
  | false => rw [e] at h; exact t n b' h c hc
theorem XFd.nil : XFd K f [] := fun _ h => by cases h
theorem XFd.cons (hN : XNm K N C) (hE : XfC K C) (h1 : PySem.W.findIn K (.ref C) f = some none) (t : XFd K f ns) : XFd K f (N :: ns) := fun n h c hc => by
  rcases List.mem_cons.mp h with e | h
  · subst e
    rw [hc.inj hN]; exact ⟨hE, h1⟩
  · exact t n h c hc
end
/-! ### arguments that are left to their defaults -/
def mSnoc (ma : DTA) (ds : List D) : DTA := fun Γ Q => ma Γ fun rs Γ1 => Q (rs ++ ds.map Res.val) Γ1
theorem Pends.append {K : Fg} {O : List Addr} {σ : L2.St} {H : Hp} : ∀ {vs ws : List V} {rs qs : List Res}, Pends K O σ H vs rs → Pends K O σ H ws qs → Pends K O σ H (vs ++ ws) (rs ++ qs)
  | _, _, _, _, .nil, s => s
  | _, _, _, _, .cons h r, s => .cons h (Pends.append r s)
/-! ### try .. except C: without a name -/
/-! ### steps -/
section
variable {Γ Γ' Γ1 : Env} {Q : QE} {i : Nat} {d : D} {ma mo : DTE} {mr : DTA} {r : Res} {rs : List Res} {ds : List D} {b : Bool} {Wd : Dwx} {n f : Str} {fs ns : List Str} {fds : List (Str × D)} {nx bk ct : Env → Prop} {rt : Res → Env → Prop} {tab : List (Str × Bool)} {mb : Dwx → DTS} {mz : Str → List (Str × D) → Addr → DTS} {a : Addr}
def xtk (is : List Nat) (Γ : Env) (Wd : Dwx) : EdT := fun n fds ds' => ∃ Γ2, putsD is ds' Γ = some Γ2 ∧ Wd n fds Γ2
def clkX (Wd : Dwx) (ms : List Md) (sd : DSp) (Γ : Env) (rs : List Res) (Q : QE) : Prop := ∃ ds, argsD Γ ms rs = some ds ∧ apartB ms rs = true ∧ sd ds (fun b d ds' => ∃ Γ2, putsD (mPls ms rs) ds' Γ = some Γ2 ∧ Q (if b = true then frOf d else .val d) Γ2) (fun n fds ds' => ∃ Γ2, putsD (mPls ms rs) ds' Γ = some Γ2 ∧ Wd n fds Γ2)
theorem e_CallX {ms : List Md} {sd : DSp} (h : mr Γ fun rs Γ1 => clkX Wd ms sd Γ1 rs Q) : mCallX Wd ms sd mr Γ Q := h
theorem e_callX {ms : List Md} {sd : DSp} {is : List Nat} (h1 : argsD Γ ms rs = some ds) (h2 : apartB ms rs = true) (h3 : mPls ms rs = is) (h : sd ds (ptk is Γ Q) (xtk is Γ Wd)) : clkX Wd ms sd Γ rs Q := ⟨_, h1, h2, by subst h3; exact h⟩
theorem e_xt {is : List Nat} (h1 : putsD is ds Γ = some Γ1) (h2 : Γ1 = Γ') (h : Wd n fds Γ') : xtk is Γ Wd n fds ds := ⟨_, h1, by rw [h2]; exact h⟩
theorem e_Snoc {Q : List Res → Env → Prop} (h : mr Γ fun rs Γ1 => Q (rs ++ ds.map Res.val) Γ1) : mSnoc mr ds Γ Q := h
def rsk (Wd : Dwx) (n : Str) (fs : List Str) (Γ : Env) (rs : List Res) : Prop := ∃ ds, dats rs = some ds ∧ ds.length = fs.length ∧ fs.length ≤ 100 ∧ ds.all scal = true ∧ Wd n (flds fs ds) Γ
theorem s_Raise (h : mr Γ fun rs Γ1 => rsk Wd n fs Γ1 rs) : mRaise Wd n fs mr (.mk nx rt bk ct) Γ := h
theorem s_raise (h1 : dats rs = some ds) (h2 : ds.length = fs.length) (h3 : fs.length ≤ 100) (h4 : ds.all scal = true) (h5 : flds fs ds = fds) (h : Wd n fds Γ) : rsk Wd n fs Γ rs := ⟨_, h1, h2, h3, h4, by rw [h5]; exact h⟩
theorem d_x {ms : List Md} {Ed : EdT} (h1 : iosD ms Γ = ds) (h : Ed n fds ds) : wEnd ms Ed n fds Γ := by subst h1; exact h
def unk (i : Nat) (nx : Env → Prop) : Env → Prop := fun Γ => freeB Γ i = true ∧ nx (Γ.set i .no)
theorem u_nk (h1 : freeB Γ i = true) (h2 : Γ.set i .no = Γ') (h : nx Γ') : unk i nx Γ := ⟨h1, by rw [h2]; exact h⟩
def xck (i : Nat) (tab : List (Str × Bool)) (mz : Str → List (Str × D) → Addr → DTS) (Wd : Dwx) (nx : Env → Prop) (rt : Res → Env → Prop) (bk ct : Env → Prop) : Dwx := fun n fds Γ1 => ∃ b, tab.lookup n = some b ∧
  (b = true → freeB Γ1 i = true ∧ ∀ a, mz n fds a (.mk (unk i nx) rt (unk i bk) (unk i ct)) (Γ1.set i (.sh (.cls a)))) ∧ (b = false → Wd n fds Γ1)
theorem s_TryAs (h : mb (xck i tab mz Wd nx rt bk ct) (.mk nx rt bk ct) Γ) : mTryAs i tab mb mz Wd (.mk nx rt bk ct) Γ := h
theorem x_T (h1 : tab.lookup n = some true) (h2 : freeB Γ i = true) (h : ∀ a, ∀ Γ', Γ.set i (.sh (.cls a)) = Γ' → mz n fds a (.mk (unk i nx) rt (unk i bk) (unk i ct)) Γ') : xck i tab mz Wd nx rt bk ct n fds Γ := ⟨true, h1, fun _ => ⟨h2, fun a => h a _ rfl⟩, fun z => by cases z⟩
theorem x_F (h1 : tab.lookup n = some false) (h : Wd n fds Γ) : xck i tab mz Wd nx rt bk ct n fds Γ := ⟨false, h1, (fun z => by cases z), fun _ => h⟩
def yck (tab : List (Str × Bool)) (mz : Str → List (Str × D) → Addr → DTS) (Wd : Dwx) (nx : Env → Prop) (rt : Res → Env → Prop) (bk ct : Env → Prop) : Dwx := fun n fds Γ1 => ∃ b, tab.lookup n = some b ∧ (b = true → ∀ a, mz n fds a (.mk nx rt bk ct) Γ1) ∧ (b = false → Wd n fds Γ1)
theorem s_Try (h : mb (yck tab mz Wd nx rt bk ct) (.mk nx rt bk ct) Γ) : mTry tab mb mz Wd (.mk nx rt bk ct) Γ := h
theorem y_T (h1 : tab.lookup n = some true) (h : ∀ a, mz n fds a (.mk nx rt bk ct) Γ) : yck tab mz Wd nx rt bk ct n fds Γ := ⟨true, h1, fun _ => h, fun z => by cases z⟩
theorem y_F (h1 : tab.lookup n = some false) (h : Wd n fds Γ) : yck tab mz Wd nx rt bk ct n fds Γ := ⟨false, h1, (fun z => by cases z), fun _ => h⟩
def xik (n : Str) (a : Addr) (tab : List (Str × Bool)) (r : Res) (Γ1 : Env) (Q : QE) : Prop := r = .val (.cls a) ∧ ∃ b, tab.lookup n = some b ∧ Q (.val (.bl b)) Γ1
theorem e_Xis (h : mo Γ fun r Γ1 => xik n a tab r Γ1 Q) : mXis n a tab mo Γ Q := h
theorem e_xis (h1 : tab.lookup n = some b) (h : Q (.val (.bl b)) Γ) : xik n a tab (.val (.cls a)) Γ Q := ⟨rfl, _, h1, h⟩
def xfk (n : Str) (fds : List (Str × D)) (a : Addr) (f : Str) (ns : List Str) (r : Res) (Γ1 : Env) (Q : QE) : Prop := r = .val (.cls a) ∧ n ∈ ns ∧ ∃ d, fds.lookup f = some d ∧ Q (.val d) Γ1
theorem e_Xf (h : mo Γ fun r Γ1 => xfk n fds a f ns r Γ1 Q) : mXf n fds a f ns mo Γ Q := h
theorem e_xf (h1 : n ∈ ns) (h2 : fds.lookup f = some d) (h : Q (.val d) Γ) : xfk n fds a f ns (.val (.cls a)) Γ Q := ⟨rfl, h1, _, h2, h⟩
end
end DL
/-! the data layer, part 42: a for over a generator: the generator's frame, woken -/
namespace DL
open PySem PySem.Spec PyProof.Rows L2
/-! ### a heap cut short -/
def low (H : Hp) (L : Nat) : Hp := fun b => if b < L then H b else none
/-! ### the generator's frame -/
/-! ### a name is stored, the generators stay -/
end DL
/-! the data layer, part 43: a for in a generator's body -/
namespace DL
open PySem PySem.Spec PyProof.Rows L2
end DL
/-! the data layer, part 44: a generator's for, yielding a name at each turn, woken by a for -/
namespace DL
open PySem PySem.Spec PyProof.Rows L2 GenW
/-- the heap has grown; nothing old has become private -/
def Grw (H H' : Hp) : Prop := (∀ b o, H b = some o → H' b = some o) ∧ PvOk H [] H'
theorem Grw.trans {A B C : Hp} (h : Grw A B) (k : Grw B C) : Grw A C := ⟨fun b o e => k.1 b o (h.1 b o e), k.2.ex, fun a ha => by
  rcases k.2.nw a ha with z | z
  · refine .inl ?_
    cases q : A a with
    | none => rfl
    | some o => rw [h.1 a o q] at z; cases z
  · exact h.2.nw a z, h.2.h0⟩
theorem Grw.refl {A B : Hp} (h : Grw A B) : Grw B B := ⟨fun _ _ e => e, h.2.here⟩
/-- a generator over a list and who drives it (X: the driver; pc: its pins; L: the generator's frame; a: its object; jn: the driver's name for what was yielded, jl: its loop's name) -/
structure GD where
  X : Cx
  pc : List (Addr × Obj)
  N : List Str
  qual : Str
  scope : Scope
  f : Addr
  cd : Value
  L : Nat
  a : Addr
  go : Obj
  g : Nat
  tg : Expr
  S1 : Stmt
  nm : Str
  np : Pos
  yp : Pos
  yq : Pos
  al : Addr
  xs : List V
  H1 : Hp
  σ1 : L2.St
  jn : Nat
  jl : Nat
  dat : Nat → D
  ig : Nat
  inw : Nat
  O : List Addr
def GD.env (G : GD) : PySem.Env := envOfC G.qual G.scope G.L G.f G.cd
def GD.body (G : GD) : List Stmt := [G.S1, .Expr (.Yield (some (.Name G.nm G.np)) G.yp) G.yq]
def GD.agree (G : GD) (σ : L2.St) : Prop := ∀ i, i ≠ G.jn → i ≠ G.jl → σ[i]? = G.σ1[i]?
/-- the end -/
def GD.F (G : GD) : Nat → Shared → Shared → Prop := fun _ _ s => ∃ (σ : L2.St) (H : Hp) (x : V), Inv G.X G.pc σ H s ∧ G.agree σ ∧ Grw G.H1 H ∧ σ[G.jn]? = some (some x) ∧ Rep G.X.K (hide G.O H) x (G.dat G.xs.length)
end DL
/-! the data layer, part 45: the generator's loop -/
namespace DL
open PySem PySem.Spec PyProof.Rows L2 GenW
end DL
/-! the data layer, part 46: a generator is made and first woken -/
namespace DL
open PySem PySem.Spec PyProof.Rows L2 GenW
end DL
/-! the data layer, part 47: for name in generator(a, b): other = name -/
namespace DL
open PySem PySem.Spec PyProof.Rows L2 GenW
theorem Inv.gens {X : Cx} {pins : List (Addr × Obj)} {σ : L2.St} {H : Hp} {s : Shared} {g : Nat} {gs : GenState} (I : Inv X pins σ H s) (hb : gs.bare = true) : Inv X pins σ H (s.setGen g gs) :=
  ⟨I.ok, I.os, allBare_setGen I.bare hb, I.base, I.loc, I.cell, I.free, I.freeC, I.pin, I.hok, I.len⟩
end DL
/-! the data layer, part 48: a for over a generator, over data -/
namespace DL
open PySem PySem.Spec PyProof.Rows L2 GenW
end DL
/-! the data layer, part 49: sum(range(..)) -/
namespace DL
open PySem PySem.Spec PyProof.Rows L2
section
variable {X : Cx} {C : Ctx} {e : Expr} {te : L2.St → Hp → (Int → Int → Hp → Prop) → Prop} {mg : Env → (Int → Int → Env → Prop) → Prop}
def rgSum (a b : Int) : Int := ((List.range (b - a).toNat).map fun i => a + ((i : Nat) : Int)).sum
def mSumRg (mg : Env → (Int → Int → Env → Prop) → Prop) : DTE := fun Γ Q => mg Γ fun a b Γ1 => RgOk a b ∧ Q (.val (.int (rgSum a b))) Γ1
def srgk (a b : Int) (Γ1 : Env) (Q : QE) : Prop := RgOk a b ∧ Q (.val (.int (rgSum a b))) Γ1
theorem e_SRg {Γ : Env} {Q : QE} (h : mg Γ fun a b Γ1 => srgk a b Γ1 Q) : mSumRg mg Γ Q := h
theorem e_srg {Γ : Env} {Q : QE} {a b : Int} (h1 : RgOk a b) (h : Q (.val (.int (rgSum a b))) Γ) : srgk a b Γ Q := ⟨h1, h⟩
end
end DL
/-! the data layer, part 50: the empty dict -/
namespace DL
open PySem PySem.Spec PyProof.Rows L2
def mDict0 : DTE := fun Γ Q => Q (.fr (.dic [])) Γ
theorem de_dict0 {X : Cx} {C : Ctx} {pos : Pos} : DE X C (.Dict [] [] pos) tDNewK mDict0 := ⟨pe_dnewK, fun Γ O σ H Qd Q R h k => fun p hp => (outs_of R (L2.Same.refl _) k).new p _ _ hp (.dic .nil) h⟩
theorem e_Dict0 {Γ : Env} {Q : QE} (h : Q (.fr (.dic [])) Γ) : mDict0 Γ Q := h
theorem i_repr0 {Q : Res → Prop} (h : Q (.val (.str (toPy (.dic [])).shown))) : reprD [.dic []] Q := ⟨.inl rfl, h⟩
end DL
/-! the data layer, part 51: loops and comprehensions over a written list, one turn at a time -/
namespace DL
open PySem L2
/-! a, b, .. = a list -/
def mgUnl (n : Nat) (ms : DTGs) : DTG := fun d Γ Q => ∃ ds, d = .lst ds ∧ ds.length = n ∧ ms ds Γ Q
theorem g_unl {n : Nat} {ms : DTGs} {ds : List D} {Γ : Env} {nx : Env → Prop} (h1 : ds.length = n) (h : ms ds Γ nx) : mgUnl n ms (.lst ds) Γ nx := ⟨_, rfl, h1, h⟩
end DL
/-! the data layer, part 52: + by the class's own __add__ -/
namespace DL
open PySem PySem.Spec PyProof.Rows L2
/-- the two sides -/
def mPairO (C : Addr) (ma mb : DTE) : DTA := fun Γ Q => ma Γ fun r Γ1 => mb Γ1 fun r2 Γ2 => (∃ ns ds ns' ds', dat r = some (.obj C ns ds) ∧ dat r2 = some (.obj C ns' ds')) ∧ Q [r, r2] Γ2
def pok (C : Addr) (r r2 : Res) (Γ : Env) (Q : List Res → Env → Prop) : Prop := (∃ ns ds ns' ds', dat r = some (.obj C ns ds) ∧ dat r2 = some (.obj C ns' ds')) ∧ Q [r, r2] Γ
theorem e_PairO {C : Addr} {ma mb : DTE} {Γ : Env} {Q : List Res → Env → Prop} (h : ma Γ fun r Γ1 => mb Γ1 fun r2 Γ2 => pok C r r2 Γ2 Q) : mPairO C ma mb Γ Q := h
theorem e_pairO {C : Addr} {r r2 : Res} {Γ : Env} {Q : List Res → Env → Prop} {ns ns' : List Str} {ds ds' : List D} (h1 : dat r = some (.obj C ns ds)) (h2 : dat r2 = some (.obj C ns' ds')) (h : Q [r, r2] Γ) : pok C r r2 Γ Q := ⟨⟨_, _, _, _, h1, h2⟩, h⟩
end DL
/-! the data layer, part 53: joins after a branch; small tools -/
namespace DL
open PySem PySem.Spec PyProof.Rows L2
end DL
namespace DL
end DL
/-! the data layer, part 54: equality of trees of numbers -/
namespace DL
open PySem PySem.Spec PyProof.Rows L2
end DL
/-! the data layer, part 55: x[a:c] = a list, x a place -/
namespace DL
open PySem PySem.Spec PyProof.Rows L2
section
variable {X : Cx} {C : Ctx} {pos p2 : Pos} {o lo hi : Expr} {to tl th : TE} {mo ml mh : DTE}
def mgSlc (mo ml mh : DTE) : DTG := fun d Γ Q => mo Γ fun ro Γ1 => ml Γ1 fun rl Γ2 => mh Γ2 fun rh Γ3 => ∃ i xs ys a c, ro = .pl i ∧ cont Γ3[i]? = some (.lst xs) ∧ d = .lst ys ∧ rl = .val (.int a) ∧ rh = .val (.int c) ∧ 0 ≤ a ∧ a ≤ c ∧ c ≤ xs.length ∧ xs.length + ys.length ≤ 100000 ∧ ∃ Γ4, setC Γ3 i (.lst (xs.take a.toNat ++ ys ++ xs.drop c.toNat)) = some Γ4 ∧ Q Γ4
end
def slck (d : D) (ro rl rh : Res) (Γ : Env) (Q : Env → Prop) : Prop := ∃ i xs ys a c, ro = .pl i ∧ cont Γ[i]? = some (.lst xs) ∧ d = .lst ys ∧ rl = .val (.int a) ∧ rh = .val (.int c) ∧ 0 ≤ a ∧ a ≤ c ∧ c ≤ xs.length ∧ xs.length + ys.length ≤ 100000 ∧ ∃ Γ4, setC Γ i (.lst (xs.take a.toNat ++ ys ++ xs.drop c.toNat)) = some Γ4 ∧ Q Γ4
theorem g_Slc {mo ml mh : DTE} {d : D} {Γ : Env} {Q : Env → Prop} (h : mo Γ fun ro Γ1 => ml Γ1 fun rl Γ2 => mh Γ2 fun rh Γ3 => slck d ro rl rh Γ3 Q) : mgSlc mo ml mh d Γ Q := h
end DL
/-! the data layer, part 56: small tools -/
namespace DL
open PySem PySem.Spec PyProof.Rows L2
end DL
/-! the data layer, part 57: dicts -/
namespace DL
open PySem PySem.Spec PyProof.Rows L2
def keyO : D → Option L2.Key
  | .int i => some (.inl i)
  | .str s => some (.inr s)
  | _ => none
def keyD : L2.Key → D
  | .inl i => .int i
  | .inr s => .str s
def keysO : List D → Option (List L2.Key)
  | [] => some []
  | d :: ds => match keyO d, keysO ds with
    | some k, some ks => some (k :: ks)
    | _, _ => none
section
variable {κ : Type} [DecidableEq κ]
def lookE (kvs : List (κ × D)) (k : κ) : Option D := (kvs.find? fun kv => decide (kv.1 = k)).map (·.2)
def putE (kvs : List (κ × D)) (k : κ) (v : D) : List (κ × D) := if (kvs.any fun kv => decide (kv.1 = k)) = true then kvs.map (fun kv => if kv.1 = k then (kv.1, v) else kv) else kvs ++ [(k, v)]
end
/-- what stands at a key: none: no such key; outer none: not a dict, not a key -/
def lookD : D → D → Option (Option D)
  | .dic kvs, k => (keyO k).map (lookE kvs)
  | .dkl kvs, k => (keyO k).map (lookE kvs)
  | .dit kvs, .tup ds => (keysO ds).map (lookE kvs)
  | .dtl kvs, .tup ds => (keysO ds).map (lookE kvs)
  | _, _ => none
def isDic : D → Bool
  | .dic _ => true
  | .dkl _ => true
  | .dit _ => true
  | .dtl _ => true
  | _ => false
/-- d[k] = v -/
def putD : D → D → D → Option D
  | .dic kvs, k, v => (keyO k).bind fun k => if kvs.length < 100000 then some (.dic (putE kvs k v)) else none
  | .dit kvs, .tup ds, v => (keysO ds).bind fun k => if kvs.length < 100000 then some (.dit (putE kvs k v)) else none
  | _, _, _ => none
section
variable {K : Fg} {H : Hp} {O : List Addr}
theorem RepK.len : ∀ {kvs : List (L2.Key × V)} {dks : List (L2.Key × D)}, RepK K H kvs dks → kvs.length = dks.length
  | _, _, .nil => rfl
  | _, _, .cons _ t => by rw [List.length_cons, List.length_cons, RepK.len t]
theorem RepT.len : ∀ {kvs : List (List L2.Key × V)} {dks : List (List L2.Key × D)}, RepT K H kvs dks → kvs.length = dks.length
  | _, _, .nil => rfl
  | _, _, .cons _ t => by rw [List.length_cons, List.length_cons, RepT.len t]
theorem RepK.app : ∀ {kvs ls : List (L2.Key × V)} {dks es : List (L2.Key × D)}, RepK K H kvs dks → RepK K H ls es → RepK K H (kvs ++ ls) (dks ++ es)
  | _, _, _, _, .nil, s => s
  | _, _, _, _, .cons h t, s => .cons h (RepK.app t s)
theorem RepT.app : ∀ {kvs ls : List (List L2.Key × V)} {dks es : List (List L2.Key × D)}, RepT K H kvs dks → RepT K H ls es → RepT K H (kvs ++ ls) (dks ++ es)
  | _, _, _, _, .nil, s => s
  | _, _, _, _, .cons h t, s => .cons h (RepT.app t s)
theorem RepK.any {k : L2.Key} : ∀ {kvs : List (L2.Key × V)} {dks : List (L2.Key × D)}, RepK K H kvs dks → (kvs.any fun kv => decide (kv.1 = k)) = dks.any fun kv => decide (kv.1 = k)
  | _, _, .nil => rfl
  | _, _, .cons h t => by rw [List.any_cons, List.any_cons, RepK.any t]
theorem RepT.any {k : List L2.Key} : ∀ {kvs : List (List L2.Key × V)} {dks : List (List L2.Key × D)}, RepT K H kvs dks → (kvs.any fun kv => decide (kv.1 = k)) = dks.any fun kv => decide (kv.1 = k)
  | _, _, .nil => rfl
  | _, _, .cons h t => by rw [List.any_cons, List.any_cons, RepT.any t]
theorem RepK.repl {k : L2.Key} {v : V} {d : D} (hv : Rep K H v d) : ∀ {kvs : List (L2.Key × V)} {dks : List (L2.Key × D)}, RepK K H kvs dks → RepK K H (kvs.map fun kv => if kv.1 = k then (kv.1, v) else kv) (dks.map fun kv => if kv.1 = k then (kv.1, d) else kv)
  | _, _, .nil => .nil
  | _, _, .cons (k := j) h t => by
    rw [List.map_cons, List.map_cons]
    by_cases e : j = k
    · rw [if_pos e, if_pos e]; exact .cons hv (RepK.repl hv t)
    · rw [if_neg e, if_neg e]; exact .cons h (RepK.repl hv t)
theorem RepT.repl {k : List L2.Key} {v : V} {d : D} (hv : Rep K H v d) : ∀ {kvs : List (List L2.Key × V)} {dks : List (List L2.Key × D)}, RepT K H kvs dks → RepT K H (kvs.map fun kv => if kv.1 = k then (kv.1, v) else kv) (dks.map fun kv => if kv.1 = k then (kv.1, d) else kv)
  | _, _, .nil => .nil
  | _, _, .cons (k := j) h t => by
    rw [List.map_cons, List.map_cons]
    by_cases e : j = k
    · rw [if_pos e, if_pos e]; exact .cons hv (RepT.repl hv t)
    · rw [if_neg e, if_neg e]; exact .cons h (RepT.repl hv t)
theorem RepK.put {kvs : List (L2.Key × V)} {dks : List (L2.Key × D)} (r : RepK K H kvs dks) (k : L2.Key) {v : V} {d : D} (hv : Rep K H v d) : RepK K H (L2.putK kvs k v) (putE dks k d) := by
  unfold L2.putK putE
  rw [r.any (k := k)]
  split
  · exact r.repl hv
  · exact r.app (.cons hv .nil)
theorem RepT.put {kvs : List (List L2.Key × V)} {dks : List (List L2.Key × D)} (r : RepT K H kvs dks) (k : List L2.Key) {v : V} {d : D} (hv : Rep K H v d) : RepT K H (L2.putK kvs k v) (putE dks k d) := by
  unfold L2.putK putE
  rw [r.any (k := k)]
  split
  · exact r.repl hv
  · exact r.app (.cons hv .nil)
end
/-! ### d[k], k in d, d.get(k, x) -/
/-- d.get(k, x) -/
def mDGet2 (mo mk mx : DTE) : DTE := fun Γ Q => mo Γ fun ro Γ1 => (∃ c, rd Γ1 ro = some c ∧ isDic c = true) ∧ mk Γ1 fun rk Γ2 => mx Γ2 fun rx Γ3 => ∃ c k o dx, rd Γ3 ro = some c ∧ rd Γ3 rk = some k ∧ lookD c k = some o ∧ dat rx = some dx ∧ Q (.val (o.getD dx)) Γ3
/-! ### d[k] = v -/
def mDPut (mo mi mv : DTE) : DTS := fun De Γ => mv Γ fun rv Γ1 => mo Γ1 fun ro Γ2 => mi Γ2 fun ri Γ3 => ∃ i c k dv c', ro = .pl i ∧ mcont Γ3[i]? = some c ∧ rd Γ3 ri = some k ∧ dat rv = some dv ∧ putD c k dv = some c' ∧ ∃ Γ4, setC Γ3 i c' = some Γ4 ∧ De.nx Γ4
/-! ### displays -/
def mDict0T : DTE := fun Γ Q => Q (.fr (.dit [])) Γ
/-- {k: v} -/
def mDict1 (mk mv : DTE) : DTE := fun Γ Q => mk Γ fun rk Γ1 => mv Γ1 fun rv Γ2 => ∃ kd k dv, rd Γ2 rk = some kd ∧ keyO kd = some k ∧ dat rv = some dv ∧ Q (.fr (.dic [(k, dv)])) Γ2
/-! ### a dict that is not changed any more: locked -/
def lockD : D → Option D
  | .dic kvs => some (.dkl kvs)
  | .dit kvs => some (.dtl kvs)
  | _ => none
/-- a new dict, from now on shared -/
def mLock (m : DTE) : DTE := fun Γ Q => m Γ fun r Γ1 => ∃ d d', r = .fr d ∧ lockD d = some d' ∧ Q (.val d') Γ1
def tLck (t : TE) : TE := fun σ H Q => t σ H fun x H1 => ∃ a u, x = .ref a ∧ H1 a = some u ∧ Mut (some u) ∧ ∀ od, Q x (upd H1 a (.frz od u))
theorem pe_lck {X : Cx} {e : Expr} {t : TE} (h : PE X e t) : PE X e (tLck t) := by
  refine ⟨fun pins s σ H Q I hw => ?_⟩
  refine thn (h.run pins s σ H _ I hw) fun v s1 ⟨x, H1, I1, r, a, u, ex, hu, mu, q⟩ => ?_
  obtain ⟨od, I2⟩ := I1.lock hu mu
  exact ⟨x, _, I2, r, q od⟩
section
variable {X : Cx} {C : Ctx} {te : TE} {me : DTE} {e : Expr}
theorem lock_own {K : Fg} {H : Hp} {o : HO} {d d' : D} (h : OwnOk K H o d) (e : lockD d = some d') : Mut (some o) ∧ ∀ (a : Addr) (od : Obj) (H' : Hp), Same H H' → H' a = some (.frz od o) → Rep K H' (.ref a) d' := by
  cases h with
  | dic r => cases e; exact ⟨trivial, fun a od H' es hH => .dkl hH (r.mono es)⟩
  | dit r => cases e; exact ⟨trivial, fun a od H' es hH => .dtl hH (r.mono es)⟩
  | lst r => cases e
  | obj _ r => cases e
theorem sim_lock (he : SimE C te me) : SimE C (tLck te) (mLock me) := fun Γ O σ H Qd Q R h k => by
  refine he Γ O σ H _ _ R h fun r Γ1 x H1 R1 e1 q1 => ?_
  obtain ⟨d, d', rfl, hd, q⟩ := q1
  obtain ⟨R0, p, o, rfl, hpp, hnp, h0, ho, RO⟩ := R1
  obtain ⟨mu, rep⟩ := lock_own ho hd
  refine ⟨p, o, rfl, hpp, mu, fun od => ?_⟩
  have hm : ∀ i, ¬ MutAt Γ1 σ i p := fun i m => hnp (R0.mutIn m)
  have hU : ∀ q ∈ C.U, q.1 ≠ p := fun q hq z => hnp (z ▸ (R0.uu q hq).2.1)
  have Ru := RO.updFree (o := .frz od o) List.mem_cons_self h0 hm hU
  have e5 : hide (p :: O) (upd H1 p (.frz od o)) = hide (p :: O) H1 := hide_mut List.mem_cons_self (RO.nr List.mem_cons_self) rfl
  have L := Ru.letgo h0 hm hU (O' := O) fun a => ⟨fun h => ⟨List.mem_cons_of_mem _ h, fun z => hnp (z ▸ h)⟩, fun h => (List.mem_cons.mp h.1).resolve_left h.2⟩
  have es : Same (hide (p :: O) H1) (hide O (upd H1 p (.frz od o))) := by rw [← e5]; exact L.2
  refine k (.val d') Γ1 _ _ ⟨L.1, ?_⟩ (.val (L2.Same.trans (e1.2 d p rfl rfl) es)) q
  exact rep p od _ es (by rw [hide_out hnp fun z => RO.npv List.mem_cons_self (Pv_upd rfl z)]; exact upd_same)
theorem de_lock (h : DE X C e te me) : DE X C e (tLck te) (mLock me) := ⟨pe_lck h.pe, sim_lock h.sim⟩
end
/-- an own dict is not changed any more -/
def mFrzL (i : Nat) (m : DTS) : DTS := fun De Γ => ∃ d d', Γ[i]? = some (.ow d) ∧ lockD d = some d' ∧ m De (Γ.set i (.sh d'))
end DL
/-! the data layer, part 58: walks over dicts; the evaluator's lemmas for dicts -/
namespace DL
open PySem PySem.Spec PyProof.Rows L2
def itemD (p : L2.Key × D) : D := .tup [keyD p.1, p.2]
def mKeysW (m : DTE) : DTI := fun Γ Q => m Γ fun r Γ1 => ∃ kvs, r = .val (.dkl kvs) ∧ ∀ o vs, Q (.v2 (.pnK o vs) (.dkl kvs)) (kvs.map fun p => keyD p.1) Γ1
def mItemsW (m : DTE) : DTI := fun Γ Q => m Γ fun r Γ1 => ∃ kvs, r = .val (.dkl kvs) ∧ ∀ o vs, Q (.v2 (.pnK o vs) (.dkl kvs)) (kvs.map itemD) Γ1
def mValsW (m : DTE) : DTI := fun Γ Q => m Γ fun r Γ1 => ∃ kvs, r = .val (.dkl kvs) ∧ ∀ o vs, Q (.v2 (.pnK o vs) (.dkl kvs)) (kvs.map (·.2)) Γ1
/-! ### the evaluator -/
section
variable {Γ Γ1 Γ2 : Env} {Q : QE} {mo mi mx : DTE} {m : DTS} {d d' : D} {i : Nat} {nx : Env → Prop}
def kwk (f : L2.Key × D → D) (r : Res) (Γ : Env) (Q : Src → List D → Env → Prop) : Prop := ∃ kvs, r = .val (.dkl kvs) ∧ ∀ o vs, Q (.v2 (.pnK o vs) (.dkl kvs)) (kvs.map f) Γ
theorem w_KeysW {Q : Src → List D → Env → Prop} (h : mo Γ fun r Γ1 => kwk (fun p => keyD p.1) r Γ1 Q) : mKeysW mo Γ Q := h
theorem w_ItemsW {Q : Src → List D → Env → Prop} (h : mo Γ fun r Γ1 => kwk itemD r Γ1 Q) : mItemsW mo Γ Q := h
theorem w_ValsW {Q : Src → List D → Env → Prop} (h : mo Γ fun r Γ1 => kwk (·.2) r Γ1 Q) : mValsW mo Γ Q := h
theorem w_kw {f : L2.Key × D → D} {Q : Src → List D → Env → Prop} {kvs : List (L2.Key × D)} (h : ∀ o vs, Q (.v2 (.pnK o vs) (.dkl kvs)) (kvs.map f) Γ) : kwk f (.val (.dkl kvs)) Γ Q := ⟨kvs, rfl, h⟩
def g2b (ro rk rx : Res) (Γ : Env) (Q : QE) : Prop := ∃ c k o dx, rd Γ ro = some c ∧ rd Γ rk = some k ∧ lookD c k = some o ∧ dat rx = some dx ∧ Q (.val (o.getD dx)) Γ
def g2a (ro : Res) (mi mx : DTE) (Γ : Env) (Q : QE) : Prop := (∃ c, rd Γ ro = some c ∧ isDic c = true) ∧ mi Γ fun rk Γ2 => mx Γ2 fun rx Γ3 => g2b ro rk rx Γ3 Q
theorem e_DGet2 (h : mo Γ fun ro Γ1 => g2a ro mi mx Γ1 Q) : mDGet2 mo mi mx Γ Q := h
theorem e_g2a {ro : Res} {c : D} (h1 : rd Γ ro = some c) (h2 : isDic c = true) (h : mi Γ fun rk Γ2 => mx Γ2 fun rx Γ3 => g2b ro rk rx Γ3 Q) : g2a ro mi mx Γ Q := ⟨⟨c, h1, h2⟩, h⟩
def dpk (rv ro ri : Res) (Γ : Env) (nx : Env → Prop) : Prop := ∃ i c k dv c', ro = .pl i ∧ mcont Γ[i]? = some c ∧ rd Γ ri = some k ∧ dat rv = some dv ∧ putD c k dv = some c' ∧ ∃ Γ4, setC Γ i c' = some Γ4 ∧ nx Γ4
theorem s_DPut {D0 : DEnds} {mv : DTE} (h : mv Γ fun rv Γ1 => mo Γ1 fun ro Γ2 => mi Γ2 fun ri Γ3 => dpk rv ro ri Γ3 D0.nx) : mDPut mo mi mv D0 Γ := h
def lkk (r : Res) (Γ : Env) (Q : QE) : Prop := ∃ d d', r = .fr d ∧ lockD d = some d' ∧ Q (.val d') Γ
theorem e_Lock {m : DTE} (h : m Γ fun r Γ1 => lkk r Γ1 Q) : mLock m Γ Q := h
theorem e_lkK {kvs : List (L2.Key × D)} (h : Q (.val (.dkl kvs)) Γ) : lkk (.fr (.dic kvs)) Γ Q := ⟨_, _, rfl, rfl, h⟩
theorem e_lkT {kvs : List (List L2.Key × D)} (h : Q (.val (.dtl kvs)) Γ) : lkk (.fr (.dit kvs)) Γ Q := ⟨_, _, rfl, rfl, h⟩
theorem s_frzL {D0 : DEnds} (h1 : Γ[i]? = some (.ow d)) (h2 : lockD d = some d') (h3 : Γ.set i (.sh d') = Γ1) (h : m D0 Γ1) : mFrzL i m D0 Γ := ⟨d, d', h1, h2, by rw [h3]; exact h⟩
def d1k (rk rv : Res) (Γ : Env) (Q : QE) : Prop := ∃ kd k dv, rd Γ rk = some kd ∧ keyO kd = some k ∧ dat rv = some dv ∧ Q (.fr (.dic [(k, dv)])) Γ
theorem e_Dict1 {mk mv : DTE} (h : mk Γ fun rk Γ1 => mv Γ1 fun rv Γ2 => d1k rk rv Γ2 Q) : mDict1 mk mv Γ Q := h
theorem e_d1 {rk rv : Res} {k : Int} {dv : D} (h1 : rd Γ rk = some (.int k)) (h2 : dat rv = some dv) (h : Q (.fr (.dic [(.inl k, dv)])) Γ) : d1k rk rv Γ Q := ⟨_, _, dv, h1, rfl, h2, h⟩
theorem e_Dict0T (h : Q (.fr (.dit [])) Γ) : mDict0T Γ Q := h
end
/-! ### dicts of ints -/
def prK (l : List (Int × Int)) : List (L2.Key × D) := l.map fun p => (.inl p.1, .int p.2)
end DL
/-! the data layer, part 59: the least of rows of ints; pairs of ints sorted -/
namespace DL
open PySem PySem.Spec PyProof.Rows L2
def hd0 (r : List Int) : Int := r.getD 0 0
/-! over data -/
end DL
/-! the data layer, part 60: d.get(k) -/
namespace DL
open PySem PySem.Spec PyProof.Rows L2
def mDGet1 (mo mk : DTE) : DTE := fun Γ Q => mo Γ fun ro Γ1 => (∃ c, rd Γ1 ro = some c ∧ isDic c = true) ∧ mk Γ1 fun rk Γ2 => ∃ c k o, rd Γ2 ro = some c ∧ rd Γ2 rk = some k ∧ lookD c k = some o ∧ Q (.val (o.getD .non)) Γ2
section
variable {Γ : Env} {Q : QE} {mo mi : DTE}
def g1b (ro rk : Res) (Γ : Env) (Q : QE) : Prop := ∃ c k o, rd Γ ro = some c ∧ rd Γ rk = some k ∧ lookD c k = some o ∧ Q (.val (o.getD .non)) Γ
def g1a (ro : Res) (mi : DTE) (Γ : Env) (Q : QE) : Prop := (∃ c, rd Γ ro = some c ∧ isDic c = true) ∧ mi Γ fun rk Γ2 => g1b ro rk Γ2 Q
theorem e_DGet1 (h : mo Γ fun ro Γ1 => g1a ro mi Γ1 Q) : mDGet1 mo mi Γ Q := h
theorem e_g1a {ro : Res} {c : D} (h1 : rd Γ ro = some c) (h2 : isDic c = true) (h : mi Γ fun rk Γ2 => g1b ro rk Γ2 Q) : g1a ro mi Γ Q := ⟨⟨c, h1, h2⟩, h⟩
end
end DL
/-! the data layer, part 61: sorted(d), d a dict with int keys, any number of them -/
namespace DL
open PySem PySem.Spec PyProof.Rows L2
theorem RepK.keys {K : Fg} {H : Hp} : ∀ {vs : List (L2.Key × V)} {ds : List (L2.Key × D)}, RepK K H vs ds → vs.map (·.1) = ds.map (·.1)
  | _, _, .nil => rfl
  | _, _, .cons _ r => by rw [List.map_cons, List.map_cons, RepK.keys r]
/-! ### x = e, where e answers a plain value or a fresh object -/
def sel (i : Nat) (r : Res) (Γ : Env) (nx : Env → Prop) : Prop := (∃ d, r = .val d ∧ freeB Γ i = true ∧ nx (Γ.set i (.sh d))) ∨ ∃ d, r = .fr d ∧ freeB Γ i = true ∧ nx (Γ.set i (.ow d))
def mSetE (i : Nat) (ma : DTE) : DTS := fun D Γ => ma Γ fun r Γ1 => sel i r Γ1 D.nx
section
variable {X : Cx} {C : Ctx} {st : Stmt} {e : Expr} {te : TE} {me : DTE} {Γ Γ' : Env} {nx bk ct : Env → Prop} {rt : Res → Env → Prop} {i : Nat} {d : D}
theorem s_SetE {ma : DTE} (h : ma Γ fun r Γ1 => sel i r Γ1 nx) : mSetE i ma (.mk nx rt bk ct) Γ := h
theorem s_setEv (h2 : freeB Γ i = true) (h3 : Γ.set i (.sh d) = Γ') (h : nx Γ') : sel i (.val d) Γ nx := .inl ⟨_, rfl, h2, by rw [h3]; exact h⟩
theorem s_setEo (h2 : freeB Γ i = true) (h3 : Γ.set i (.ow d) = Γ') (h : nx Γ') : sel i (.fr d) Γ nx := .inr ⟨_, rfl, h2, by rw [h3]; exact h⟩
end
/-! ### len(d), d a shared dict -/
end DL
/-! the data layer, part 62: goals by kind (the evaluator looks only at the lemmas of a goal's kind) -/
namespace DL
open PySem PySem.Spec PyProof.Rows L2
theorem gkE {F : Env → QE → Prop} {a : Env} {b : QE} (h : F a b) : F a b := h
theorem gkO {F : D → (Res → Prop) → Prop} {a : D} {b : Res → Prop} (h : F a b) : F a b := h
theorem gkB {F : List D → (Res → Prop) → Prop} {a : List D} {b : Res → Prop} (h : F a b) : F a b := h
theorem gkS {F : DEnds → Env → Prop} {a : DEnds} {b : Env} (h : F a b) : F a b := h
theorem gkT {F : Env → (Env → Prop) → Prop} {a : Env} {b : Env → Prop} (h : F a b) : F a b := h
theorem gkW {F : Env → (Src → List D → Env → Prop) → Prop} {a : Env} {b : Src → List D → Env → Prop} (h : F a b) : F a b := h
theorem gkL {F : Env → (List Res → Env → Prop) → Prop} {a : Env} {b : List Res → Env → Prop} (h : F a b) : F a b := h
theorem gkP {p : Prop} [Decidable p] {a b : Prop} (h : if p then a else b) : if p then a else b := h
theorem gkX {F : (Bool → D → List D → Prop) → EdT → Prop} {a : Bool → D → List D → Prop} {b : EdT} (h : F a b) : F a b := h
end DL
/-! the data layer, part 63: != of two tuples (a truth, an object of the module with its own ==), all equal: False -/
namespace DL
open PySem PySem.Spec PyProof.Rows L2 GQ
/-! over data -/
def mNeTO (C : Addr) (sd : DSp) (ma mb : DTE) : DTE := fun Γ Q => ma Γ fun ra Γ1 => mb Γ1 fun rb Γ2 => ∃ t ns ds ns' ds', dat ra = some (.tup [.bl t, .obj C ns ds]) ∧ dat rb = some (.tup [.bl t, .obj C ns' ds']) ∧
  sd [.obj C ns ds, .obj C ns' ds'] (eqk id Γ2 fun r _ => r = .val (.bl true)) noX ∧ Q (.val (.bl false)) Γ2
section
variable {C : Addr} {Γ Γ1 : Env} {Q : QE} {ma mb : DTE}
def ntk (C : Addr) (sd : DSp) (ra rb : Res) (Γ : Env) (Q : QE) : Prop := ∃ t ns ds ns' ds', dat ra = some (.tup [.bl t, .obj C ns ds]) ∧ dat rb = some (.tup [.bl t, .obj C ns' ds']) ∧ sd [.obj C ns ds, .obj C ns' ds'] (eqk id Γ fun r _ => r = .val (.bl true)) noX ∧ Q (.val (.bl false)) Γ
theorem e_NeTO {sd : DSp} (h : ma Γ fun ra Γ1 => mb Γ1 fun rb Γ2 => ntk C sd ra rb Γ2 Q) : mNeTO C sd ma mb Γ Q := h
end
end DL
/-! the data layer, part 64: sorted(d.items()), d a shared dict of ints, any number of them -/
namespace DL
open PySem PySem.Spec PyProof.Rows L2 LiI
/-! over data -/
def mSortItems (me : DTE) : DTE := fun Γ Q => me Γ fun r Γ1 => ∃ ks : List (Int × Int), r = .val (.dkl (prK ks)) ∧ ks.length ≤ 100000 ∧
  ∀ ms : List (Int × Int), ms.Perm ks → ms.Pairwise (fun x y => ¬ (y.1 < x.1 ∨ (y.1 = x.1 ∧ y.2 < x.2))) → Q (.fr (.lst (ms.map fun p => D.tup [.int p.1, .int p.2]))) Γ1
section
variable {Γ : Env} {Q : QE} {me : DTE}
def sik (r : Res) (Γ : Env) (Q : QE) : Prop := ∃ ks : List (Int × Int), r = .val (.dkl (prK ks)) ∧ ks.length ≤ 100000 ∧ ∀ ms : List (Int × Int), ms.Perm ks → ms.Pairwise (fun x y => ¬ (y.1 < x.1 ∨ (y.1 = x.1 ∧ y.2 < x.2))) → Q (.fr (.lst (ms.map fun p => D.tup [.int p.1, .int p.2]))) Γ
theorem e_SortItems (h : me Γ fun r Γ1 => sik r Γ1 Q) : mSortItems me Γ Q := h
end
end DL
/-! the data layer, part 65: xs.count(k), a list of ints -/
namespace DL
open PySem PySem.Spec PyProof.Rows L2
def isLst : D → Bool
  | .lst _ => true
  | _ => false
def mCount (mo mk : DTE) : DTE := fun Γ Q => mo Γ fun ro Γ1 => (∃ c, rd Γ1 ro = some c ∧ isLst c = true) ∧ mk Γ1 fun rk Γ2 => ∃ (ns : List Int) (k : Int), rd Γ2 ro = some (.lst (ns.map D.int)) ∧ rd Γ2 rk = some (.int k) ∧ Q (.val (.int (ns.count k : Nat))) Γ2
section
variable {Γ : Env} {Q : QE} {mo mi : DTE}
def cnb (ro rk : Res) (Γ : Env) (Q : QE) : Prop := ∃ (ns : List Int) (k : Int), rd Γ ro = some (.lst (ns.map D.int)) ∧ rd Γ rk = some (.int k) ∧ Q (.val (.int (ns.count k : Nat))) Γ
def cna (ro : Res) (mi : DTE) (Γ : Env) (Q : QE) : Prop := (∃ c, rd Γ ro = some c ∧ isLst c = true) ∧ mi Γ fun rk Γ2 => cnb ro rk Γ2 Q
theorem e_Count (h : mo Γ fun ro Γ1 => cna ro mi Γ1 Q) : mCount mo mi Γ Q := h
theorem e_cna {ro : Res} {c : D} (h1 : rd Γ ro = some c) (h2 : isLst c = true) (h : mi Γ fun rk Γ2 => cnb ro rk Γ2 Q) : cna ro mi Γ Q := ⟨⟨c, h1, h2⟩, h⟩
theorem i_count {ro rk : Res} {ns : List Int} {k : Int} (h1 : rd Γ ro = some (.lst (ns.map D.int))) (h2 : rd Γ rk = some (.int k)) (h : Q (.val (.int (ns.count k : Nat))) Γ) : cnb ro rk Γ Q := ⟨ns, k, h1, h2, h⟩
end
end DL
namespace DL
open PySem PySem.Spec PyProof.Rows L2
/-! data that print well, dicts among them -/
mutual
def niceZ (k : Nat) : D → Bool
  | .int i => decide (i.natAbs < 2 ^ k)
  | .bl _ => true
  | .non => true
  | .lst ds => niceZs k ds
  | .tup ds => niceZs k ds
  | .str x => PyData.strOk x
  | .dic kvs => niceZk k kvs
  | .dkl kvs => niceZk k kvs
  | _ => false
def niceZs (k : Nat) : List D → Bool
  | [] => true
  | d :: ds => niceZ k d && niceZs k ds
def niceZk (k : Nat) : List (L2.Key × D) → Bool
  | [] => true
  | (.inl i, d) :: ds => decide (i.natAbs < 2 ^ k) && niceZ k d && niceZk k ds
  | (.inr x, d) :: ds => PyData.strOk x && niceZ k d && niceZk k ds
end
mutual
def wtZ (k : Nat) : D → Nat
  | .int _ => k + 1
  | .lst ds => 4 + wtZs k ds
  | .scr ds => 4 + wtZs k ds
  | .tup ds => 4 + wtZs k ds
  | .dic kvs => 4 + wtZk k kvs
  | .dkl kvs => 4 + wtZk k kvs
  | .str x => 10 * x.length + 5
  | _ => 5
def wtZs (k : Nat) : List D → Nat
  | [] => 0
  | d :: ds => wtZ k d + 2 + wtZs k ds
def wtZk (k : Nat) : List (L2.Key × D) → Nat
  | [] => 0
  | (.inl _, d) :: ds => k + 1 + 2 + wtZ k d + 2 + wtZk k ds
  | (.inr x, d) :: ds => 10 * x.length + 5 + 2 + wtZ k d + 2 + wtZk k ds
end
theorem shownI {k : Nat} (hk0 : 0 < k) (hk : k ≤ 1920) {i : Int} (h : i.natAbs < 2 ^ k) : (PyData.int i).showable = true ∧ PyData.strOk (PyData.int i).shown = true ∧ (PyData.int i).shown.length ≤ k + 1 := by
  have hl := log2_nice hk0 h
  refine ⟨by rw [PyData.showable]; exact decide_eq_true (by omega), by rw [PyData.shown]; exact strOk_of _, ?_⟩
  rw [PyData.shown]
  have := int_text_length_le hk0 hl
  rw [Str_len]; omega
theorem shownS {x : Str} (h : PyData.strOk x = true) : (PyData.str x).showable = true ∧ PyData.strOk (PyData.str x).shown = true ∧ (PyData.str x).shown.length ≤ 10 * x.length + 5 := by
  refine ⟨rfl, by rw [PyData.shown]; exact strOk_repr h, ?_⟩
  rw [PyData.shown]
  have := StrLaws.reprText_len x fun c hc => Nat.lt_trans (strOk_mem.mp h c hc) (by decide)
  omega
theorem strOk_dict {ps : List Str} (h : ∀ t ∈ ps, PyData.strOk t = true) : PyData.strOk (dictText ps) = true := by
  unfold dictText
  exact strOk_app (strOk_app (strOk_of _) (strOk_join _ _ h)) (strOk_of _)
theorem len_dict (ps : List Str) : (dictText ps).length ≤ (ps.map (·.length)).sum + 2 * ps.length + 2 := by
  unfold dictText
  rw [strLen_append, strLen_append]
  have h8 := join_len ", " ps
  have h9 : (", " : Str).length = 2 := by decide
  rw [h9] at h8
  have h10 : ("{" : Str).length = 1 := by decide
  have h11 : ("}" : Str).length = 1 := by decide
  omega
section
variable {k : Nat} (hk0 : 0 < k) (hk : k ≤ 1920)
include hk0 hk
mutual
theorem niceZ_ok : ∀ d : D, niceZ k d = true → plainZ d = true ∧ (toPy d).showable = true ∧ PyData.strOk (toPy d).shown = true ∧ (toPy d).shown.length ≤ wtZ k d
  | .non, _ => by refine ⟨rfl, rfl, strOk_of _, ?_⟩; simp only [toPy, PyData.shown, wtZ]; decide
  | .bl b, _ => by
    refine ⟨rfl, rfl, ?_, ?_⟩
    · cases b <;> exact strOk_of _
    · simp only [toPy, PyData.shown, wtZ]; cases b <;> decide
  | .int i, h => by
    rw [niceZ, decide_eq_true_eq] at h
    rw [toPy, wtZ]
    exact ⟨rfl, shownI hk0 hk h⟩
  | .str x, h => by
    rw [niceZ] at h
    rw [toPy, wtZ]
    exact ⟨rfl, shownS h⟩
  | .lst ds, h => by
    rw [niceZ] at h
    obtain ⟨h1, h3, h6, h7⟩ := niceZs_ok ds h
    refine ⟨by rw [plainZ]; exact h1, by rw [toPy, PyData.showable]; exact h3, ?_, ?_⟩
    · rw [toPy, PyData.shown]
      exact strOk_app (strOk_textFrom _ _ _ h6 (strOk_of _)) (strOk_of _)
    · rw [toPy, PyData.shown, wtZ]
      have := listText_len_le (PyData.shownAll (toPys ds))
      omega
  | .scr _, h => by simp [niceZ] at h
  | .tup ds, h => by
    rw [niceZ] at h
    obtain ⟨h1, h3, h6, h7⟩ := niceZs_ok ds h
    refine ⟨by rw [plainZ]; exact h1, by rw [toPy, PyData.showable]; exact h3, ?_, ?_⟩
    · rw [toPy, PyData.shown]
      unfold tupleText
      refine strOk_app (strOk_app (strOk_of _) (strOk_join _ _ h6)) ?_
      split <;> exact strOk_of _
    · rw [toPy, PyData.shown, wtZ]
      unfold tupleText
      rw [strLen_append, strLen_append]
      have h8 := join_len ", " (PyData.shownAll (toPys ds))
      have h9 : (", " : Str).length = 2 := by decide
      rw [h9] at h8
      have h10 : ("(" : Str).length = 1 := by decide
      have h11 : ((if (PyData.shownAll (toPys ds)).length == 1 then ",)" else ")" : String) : Str).length ≤ 2 := by split <;> decide
      omega
  | .dic ds, h => by
    rw [niceZ] at h
    obtain ⟨h1, h3, h6, h7⟩ := niceZk_ok ds h
    refine ⟨by rw [plainZ]; exact h1, by rw [toPy, PyData.showable]; exact h3, ?_, ?_⟩
    · rw [toPy, PyData.shown]; exact strOk_dict h6
    · rw [toPy, PyData.shown, wtZ]
      have := len_dict (PyData.shownKv (toPyK ds))
      omega
  | .dkl ds, h => by
    rw [niceZ] at h
    obtain ⟨h1, h3, h6, h7⟩ := niceZk_ok ds h
    refine ⟨by rw [plainZ]; exact h1, by rw [toPy, PyData.showable]; exact h3, ?_, ?_⟩
    · rw [toPy, PyData.shown]; exact strOk_dict h6
    · rw [toPy, PyData.shown, wtZ]
      have := len_dict (PyData.shownKv (toPyK ds))
      omega
  | .dit _, h => by simp [niceZ] at h
  | .dtl _, h => by simp [niceZ] at h
  | .pnK _ _, h => by simp [niceZ] at h
  | .pnT _ _, h => by simp [niceZ] at h
  | .obj _ _ _, h => by simp [niceZ] at h
  | .cls _, h => by simp [niceZ] at h
  | .xcl _ _, h => by simp [niceZ] at h
  | .sto _, h => by simp [niceZ] at h
theorem niceZs_ok : ∀ ds : List D, niceZs k ds = true → plainZs ds = true ∧ PyData.showableAll (toPys ds) = true ∧ (∀ t ∈ PyData.shownAll (toPys ds), PyData.strOk t = true) ∧ ((PyData.shownAll (toPys ds)).map (·.length)).sum + 2 * (PyData.shownAll (toPys ds)).length ≤ wtZs k ds
  | [], _ => by refine ⟨rfl, rfl, fun t ht => ?_, ?_⟩ <;> simp_all [toPys, PyData.shownAll, wtZs]
  | d :: ds, h => by
    rw [niceZs, Bool.and_eq_true] at h
    obtain ⟨a1, a3, a6, a7⟩ := niceZ_ok d h.1
    obtain ⟨h1, h3, h6, h7⟩ := niceZs_ok ds h.2
    refine ⟨by rw [plainZs, a1, h1]; rfl, by rw [toPys, PyData.showableAll, a3, h3]; rfl, fun t ht => ?_, ?_⟩
    · rw [toPys, PyData.shownAll] at ht
      rcases List.mem_cons.mp ht with e | e
      · rw [e]; exact a6
      · exact h6 t e
    · rw [toPys, PyData.shownAll, wtZs]
      simp only [List.map_cons, List.sum_cons, List.length_cons]
      omega
theorem niceZk_ok : ∀ ds : List (L2.Key × D), niceZk k ds = true → plainZk ds = true ∧ PyData.showableKv (toPyK ds) = true ∧ (∀ t ∈ PyData.shownKv (toPyK ds), PyData.strOk t = true) ∧ ((PyData.shownKv (toPyK ds)).map (·.length)).sum + 2 * (PyData.shownKv (toPyK ds)).length ≤ wtZk k ds
  | [], _ => by refine ⟨rfl, rfl, fun t ht => ?_, ?_⟩ <;> simp_all [toPyK, PyData.shownKv, wtZk]
  | (.inl i, d) :: ds, h => by
    rw [niceZk, Bool.and_eq_true, Bool.and_eq_true, decide_eq_true_eq] at h
    obtain ⟨b3, b6, b7⟩ := shownI hk0 hk h.1.1
    obtain ⟨a1, a3, a6, a7⟩ := niceZ_ok d h.1.2
    obtain ⟨h1, h3, h6, h7⟩ := niceZk_ok ds h.2
    refine ⟨by rw [plainZk, a1, h1]; rfl, by rw [toPyK, keyPy, PyData.showableKv, a3, h3, b3]; rfl, fun t ht => ?_, ?_⟩
    · rw [toPyK, keyPy, PyData.shownKv] at ht
      rcases List.mem_cons.mp ht with e | e
      · rw [e]; exact strOk_app (strOk_app b6 (strOk_of _)) a6
      · exact h6 t e
    · rw [toPyK, keyPy, PyData.shownKv, wtZk]
      simp only [List.map_cons, List.sum_cons, List.length_cons, strLen_append]
      have h10 : (": " : Str).length = 2 := by decide
      omega
  | (.inr x, d) :: ds, h => by
    rw [niceZk, Bool.and_eq_true, Bool.and_eq_true] at h
    obtain ⟨b3, b6, b7⟩ := shownS h.1.1
    obtain ⟨a1, a3, a6, a7⟩ := niceZ_ok d h.1.2
    obtain ⟨h1, h3, h6, h7⟩ := niceZk_ok ds h.2
    refine ⟨by rw [plainZk, a1, h1]; rfl, by rw [toPyK, keyPy, PyData.showableKv, a3, h3, b3]; rfl, fun t ht => ?_, ?_⟩
    · rw [toPyK, keyPy, PyData.shownKv] at ht
      rcases List.mem_cons.mp ht with e | e
      · rw [e]; exact strOk_app (strOk_app b6 (strOk_of _)) a6
      · exact h6 t e
    · rw [toPyK, keyPy, PyData.shownKv, wtZk]
      simp only [List.map_cons, List.sum_cons, List.length_cons, strLen_append]
      have h10 : (": " : Str).length = 2 := by decide
      omega
end
end
/-- prints well, not too deep, not too long -/
structure NiceZ (d : D) : Prop where
  nice : niceZ 256 d = true
  deep : (toPy d).depth ≤ 20
  wt : wtZ 256 d ≤ 900000
theorem NiceZ.okS {d : D} (h : NiceZ d) : DL.okE (.str (toPy d).shown) = true := okE_strOk (niceZ_ok (k := 256) (by decide) (by decide) d h.nice).2.2.1
end DL
namespace DL
open PySem PySem.Spec PyProof.Rows L2
/-! a walk over a text -/
def chrs (x : Str) : List D := x.cps.toList.map fun c => D.str ⟨#[c]⟩
def mSeqT (ma : DTE) : DTI := fun Γ Q => ma Γ fun r Γ1 => ∃ x, rd Γ1 r = some (.str x) ∧ Q .no (chrs x) Γ1
def sqt (r : Res) (Γ : Env) (Q : Src → List D → Env → Prop) : Prop := ∃ x, rd Γ r = some (.str x) ∧ Q .no (chrs x) Γ
theorem w_SeqT {Γ : Env} {ma : DTE} {Q : Src → List D → Env → Prop} (h : ma Γ fun r Γ1 => sqt r Γ1 Q) : mSeqT ma Γ Q := h
theorem w_seqt {Γ : Env} {r : Res} {x : Str} {Q : Src → List D → Env → Prop} (h1 : rd Γ r = some (.str x)) (h : Q .no (chrs x) Γ) : sqt r Γ Q := ⟨x, h1, h⟩
/-! steps of texts -/
theorem i_lenS {x : Str} {Q : Res → Prop} (h1 : x.length ≤ 100000) (h : Q (.val (.int x.length))) : lenD [.str x] Q := ⟨h1, h⟩
theorem i_inSS {c : Nat} {x : Str} {Q : Res → Prop} (h : Q (.val (.bl (decide (c ∈ x.cps.toList))))) : inD (.str ⟨#[c]⟩) (.str x) Q := ⟨c, rfl, h⟩
end DL
namespace DL
open PySem PySem.Spec PyProof.Rows L2
/-! isinstance(x, (A, B)), built-in classes -/
def mIsiT (Ts : List String) (ma : DTE) : DTE := fun Γ Q => ma Γ fun r Γ1 => ∃ d, rd Γ1 r = some d ∧ (tyN d).isSome = true ∧ Q (.val (.bl (Ts.any fun T => isTy T d))) Γ1
section
variable {Γ Γ1 : Env} {ma : DTE} {Q : QE}
def isuk (Ts : List String) (r : Res) (Γ : Env) (Q : QE) : Prop := ∃ d, rd Γ r = some d ∧ (tyN d).isSome = true ∧ Q (.val (.bl (Ts.any fun T => isTy T d))) Γ
theorem e_IsiTu {Ts : List String} (h : ma Γ fun r Γ1 => isuk Ts r Γ1 Q) : mIsiT Ts ma Γ Q := h
theorem e_isiTuT {Ts : List String} {r : Res} {d : D} (h1 : rd Γ r = some d) (h2 : (tyN d).isSome = true) (h3 : (Ts.any fun T => isTy T d) = true) (h : Q (.val (.bl true)) Γ) : isuk Ts r Γ Q := ⟨d, h1, h2, by rw [h3]; exact h⟩
theorem e_isiTuF {Ts : List String} {r : Res} {d : D} (h1 : rd Γ r = some d) (h2 : (tyN d).isSome = true) (h3 : (Ts.any fun T => isTy T d) = false) (h : Q (.val (.bl false)) Γ) : isuk Ts r Γ Q := ⟨d, h1, h2, by rw [h3]; exact h⟩
end
theorem e_d1s {Γ : Env} {Q : QE} {rk rv : Res} {x : Str} {dv : D} (h1 : rd Γ rk = some (.str x)) (h2 : dat rv = some dv) (h : Q (.fr (.dic [(.inr x, dv)])) Γ) : d1k rk rv Γ Q := ⟨_, _, dv, h1, rfl, h2, h⟩
/-! a list compared with [] (whatever it holds) -/
def rEmp (K : Fg) (F : Bool → Bool) : R2 := fun x y H Q => ∃ a b xs, x = .ref a ∧ y = .ref b ∧ SqL K H a xs ∧ SqL K H b [] ∧ Q (.bl (F (decide (xs = [])))) H
section
variable {X : Cx}
theorem op_eqEmp (hu : X.A.units < cLine) : OpR X (compareOp .Eq) (rEmp X.K id) := by
  intro pins s σ H x y v u Q I rx ry h
  obtain ⟨a, b, xs, rfl, rfl, ha, hb, q⟩ := h
  obtain rfl : v = Value.ref a := rx
  obtain rfl : u = Value.ref b := ry
  obtain ⟨i1, r1, p1, _⟩ := I.list ha
  obtain ⟨i2, r2, p2, _⟩ := I.list hb
  cases r2
  cases r1 with
  | nil => exact SeqAt.eq_listAt p1.isList p2.isList rfl hu (e := fun _ => true) (fun j h1 _ => absurd h1 (by simp)) ⟨.bl true, H, I, rfl, q⟩
  | cons _ _ => exact SeqAt.eq_list_lengthsAt p1.isList p2.isList (by simp) hu ⟨.bl false, H, I, rfl, q⟩
end
def empD (F : Bool → Bool) : D → D → (Res → Prop) → Prop
  | .lst ds, .lst [], Q => Q (.val (.bl (F ds.isEmpty)))
  | .scr ds, .lst [], Q => Q (.val (.bl (F ds.isEmpty)))
  | _, _, _ => False
theorem sim_emp {K : Fg} {F : Bool → Bool} : SimR2 K (rEmp K F) (empD F) := fun O H x y a b Qd Q h1 h2 q k => by
  unfold empD at q
  split at q
  · obtain ⟨p, vs, rfl, e, r⟩ := h1.lst
    obtain ⟨p2, vs2, rfl, e2, r2⟩ := h2.lst
    cases r2
    rename_i ds
    have eb : decide (vs = []) = ds.isEmpty := by cases r <;> rfl
    exact ⟨p, p2, vs, rfl, rfl, SqL.of e, SqL.of e2, by rw [eb]; exact k.val _ _ (.bl _) q⟩
  · obtain ⟨p, vs, rfl, e, r⟩ := h1.scr
    obtain ⟨p2, vs2, rfl, e2, r2⟩ := h2.lst
    cases r2
    rename_i ds
    have eb : decide (vs = []) = ds.isEmpty := by cases r <;> rfl
    exact ⟨p, p2, vs, rfl, rfl, e, SqL.of e2, by rw [eb]; exact k.val _ _ (.bl _) q⟩
  · exact q.elim
section
variable {X : Cx} {C : Ctx} {ta tb : TE} {ma mb : DTE} {a b : Expr} {pos : Pos}
theorem de_eqEmp (hu : X.A.units + 64 < cLine) (ha : DE X C a ta ma) (hb : DE X C b tb mb) {K0 : Fg} (hK0 : X.K = K0 := by rfl) (hK : K0 = C.K := by rfl) : DE X C (.Compare a [.Eq] [b] pos) (tOp (rEmp K0 id) ta tb) (mOp (empD id) ma mb) := by
  subst hK0; exact de_cmp (op_eqEmp (by omega)) (by rw [hK]; exact sim_emp) ha hb (nomark _)
theorem dt_eqEmp (hu : X.A.units + 64 < cLine) (ha : DE X C a ta ma) (hb : DE X C b tb mb) {K0 : Fg} (hK0 : X.K = K0 := by rfl) (hK : K0 = C.K := by rfl) : DT X C (.Compare a [.Eq] [b] pos) (tB (tOp (rEmp K0 id) ta tb)) (mTest (mOp (empD id) ma mb)) := by
  subst hK0; exact dt_cmp (op_eqEmp (by omega)) (by rw [hK]; exact sim_emp) ha hb (nomark _)
end
theorem i_eqEmp {ds : List D} {Q : Res → Prop} (h : Q (.val (.bl ds.isEmpty))) : empD id (.lst ds) (.lst []) Q := h
theorem i_neEmp {ds : List D} {Q : Res → Prop} (h : Q (.val (.bl (!ds.isEmpty)))) : empD (fun b => !b) (.lst ds) (.lst []) Q := h
/-! a tuple times a number -/
end DL
/-! the data layer, part 69: {tuple: v}; dicts whose keys are tuples of ints -/
namespace DL
open PySem PySem.Spec PyProof.Rows L2
def mDict1T (mk mv : DTE) : DTE := fun Γ Q => mk Γ fun rk Γ1 => mv Γ1 fun rv Γ2 => ∃ ds k dv, rd Γ2 rk = some (.tup ds) ∧ keysO ds = some k ∧ dat rv = some dv ∧ Q (.fr (.dit [(k, dv)])) Γ2
/-! ### dicts whose keys are tuples of ints -/
def prT (l : List (List Int × D)) : List (List L2.Key × D) := l.map fun p => (p.1.map Sum.inl, p.2)
theorem keysO_ints : ∀ l : List Int, keysO (l.map D.int) = some (l.map Sum.inl)
  | [] => rfl
  | x :: l => by rw [List.map_cons, keysO, keysO_ints l]; rfl
section
variable {Γ : Env} {Q : QE}
def d1kT (rk rv : Res) (Γ : Env) (Q : QE) : Prop := ∃ ds k dv, rd Γ rk = some (.tup ds) ∧ keysO ds = some k ∧ dat rv = some dv ∧ Q (.fr (.dit [(k, dv)])) Γ
theorem e_Dict1T {mk mv : DTE} (h : mk Γ fun rk Γ1 => mv Γ1 fun rv Γ2 => d1kT rk rv Γ2 Q) : mDict1T mk mv Γ Q := h
theorem e_d1T {rk rv : Res} {l : List Int} {dv : D} (h1 : rd Γ rk = some (.tup (l.map D.int))) (h2 : dat rv = some dv) (h : Q (.fr (.dit (prT [(l, dv)]))) Γ) : d1kT rk rv Γ Q := ⟨_, _, dv, h1, keysO_ints l, h2, h⟩
end
end DL
namespace DL
open PySem PySem.Spec PyProof.Rows L2
/-! own == and != with a thing of any built-in kind -/
/-- x == y by the own == of x's class, y of any built-in kind -/
def mEqX (C : Addr) (sd : DSp) (F : Bool → Bool) (ma mb : DTE) : DTE := fun Γ Q => ma Γ fun ra Γ1 => mb Γ1 fun rb Γ2 => ∃ ns ds d, dat ra = some (.obj C ns ds) ∧ dat rb = some d ∧ (tyN d).isSome = true ∧ sd [.obj C ns ds, d] (eqk F Γ2 Q) noX
section
variable {X : Cx} {C : Ctx} {C0 : Addr} {k : Nat} {g : Addr} {fd : FuncData} {ps : List Str} {sd : DSp} {ta tb : TE} {ma mb : DTE} {a b : Expr} {pos : Pos} {E : XK}
variable {Γ : Env} {Q : QE} {r r2 : Res} {ns : List Str} {ds : List D}
def eoxk (C : Addr) (sd : DSp) (F : Bool → Bool) (ra rb : Res) (Γ2 : Env) (Q : QE) : Prop := ∃ ns ds d, dat ra = some (.obj C ns ds) ∧ dat rb = some d ∧ (tyN d).isSome = true ∧ sd [.obj C ns ds, d] (eqk F Γ2 Q) noX
theorem e_EqX {F : Bool → Bool} (h : ma Γ fun ra Γ1 => mb Γ1 fun rb Γ2 => eoxk C0 sd F ra rb Γ2 Q) : mEqX C0 sd F ma mb Γ Q := h
theorem e_eqX {F : Bool → Bool} {d : D} (h1 : dat r = some (.obj C0 ns ds)) (h2 : dat r2 = some d) (h3 : (tyN d).isSome = true) (h : sd [.obj C0 ns ds, d] (eqk F Γ Q) noX) : eoxk C0 sd F r r2 Γ Q := ⟨_, _, _, h1, h2, h3, h⟩
end
end DL
namespace DL
open PySem PySem.Spec PyProof.Rows L2
/-! x in a list of trees -/
end DL
namespace DL
open PySem PySem.Spec PyProof.Rows L2
/-! xs.index(x) of a list -/
/-- j is the first place of an equal one -/
def IdxAt (ds : List D) (x : D) (j : Nat) : Prop := (∃ z, ds[j]? = some z ∧ eqv z x = true) ∧ ∀ (m : Nat) (z : D), m < j → ds[m]? = some z → eqv z x = false
def mIndex (mo mk : DTE) : DTE := fun Γ Q => mo Γ fun ro Γ1 => (∃ c, rd Γ1 ro = some c ∧ isLst c = true) ∧ mk Γ1 fun rk Γ2 => ∃ (ds : List D) (x : D) (j : Nat), rd Γ2 ro = some (.lst ds) ∧ rd Γ2 rk = some x ∧ okE (.lst ds) = true ∧ okE x = true ∧ IdxAt ds x j ∧ Q (.val (.int (j : Nat))) Γ2
section
variable {Γ : Env} {Q : QE} {mo mi : DTE}
def idb (ro rk : Res) (Γ : Env) (Q : QE) : Prop := ∃ (ds : List D) (x : D) (j : Nat), rd Γ ro = some (.lst ds) ∧ rd Γ rk = some x ∧ okE (.lst ds) = true ∧ okE x = true ∧ IdxAt ds x j ∧ Q (.val (.int (j : Nat))) Γ
def ida (ro : Res) (mi : DTE) (Γ : Env) (Q : QE) : Prop := (∃ c, rd Γ ro = some c ∧ isLst c = true) ∧ mi Γ fun rk Γ2 => idb ro rk Γ2 Q
theorem e_Index (h : mo Γ fun ro Γ1 => ida ro mi Γ1 Q) : mIndex mo mi Γ Q := h
theorem e_ida {ro : Res} {c : D} (h1 : rd Γ ro = some c) (h2 : isLst c = true) (h : mi Γ fun rk Γ2 => idb ro rk Γ2 Q) : ida ro mi Γ Q := ⟨⟨c, h1, h2⟩, h⟩
end
end DL
/-! x[:] = a list, x a place -/
namespace L2
open PySem PySem.Spec PyProof.Rows
end L2
namespace DL
open PySem PySem.Spec PyProof.Rows L2
section
variable {X : Cx} {C : Ctx} {pos p2 : Pos} {o : Expr} {to : TE} {mo : DTE}
def mgAll (mo : DTE) : DTG := fun d Γ Q => mo Γ fun ro Γ1 => ∃ i xs ys, ro = .pl i ∧ cont Γ1[i]? = some (.lst xs) ∧ d = .lst ys ∧ xs.length + ys.length ≤ 100000 ∧ ∃ Γ4, setC Γ1 i (.lst ys) = some Γ4 ∧ Q Γ4
end
def alck (d : D) (ro : Res) (Γ : Env) (Q : Env → Prop) : Prop := ∃ i xs ys, ro = .pl i ∧ cont Γ[i]? = some (.lst xs) ∧ d = .lst ys ∧ xs.length + ys.length ≤ 100000 ∧ ∃ Γ4, setC Γ i (.lst ys) = some Γ4 ∧ Q Γ4
theorem g_All {mo : DTE} {d : D} {Γ : Env} {Q : Env → Prop} (h : mo Γ fun ro Γ1 => alck d ro Γ1 Q) : mgAll mo d Γ Q := h
theorem g_all {xs ys : List D} {i : Nat} {Γ Γ4 Γ5 : Env} {Q : Env → Prop} (h1 : cont Γ[i]? = some (.lst xs)) (hz : xs.length + ys.length ≤ 100000) (hs : setC Γ i (.lst ys) = some Γ4) (h4 : Γ4 = Γ5) (h : Q Γ5) : alck (.lst ys) (.pl i) Γ Q := ⟨i, xs, ys, rfl, h1, rfl, hz, Γ4, hs, by rw [h4]; exact h⟩
end DL
/-! isinstance(e, (A, B)) of a caught exception -/
namespace DL
open PySem PySem.Spec PyProof.Rows L2
def XIsL (K : Fg) : List Value → List (List (Str × Bool)) → Prop
  | [], [] => True
  | T :: Ts, t :: ts => XIs K T t ∧ XIsL K Ts ts
  | _, _ => False
theorem xisl_nil {K : Fg} : XIsL K [] [] := trivial
theorem xisl_cons {K : Fg} {T : Value} {t : List (Str × Bool)} {Ts : List Value} {ts : List (List (Str × Bool))} (h : XIs K T t) (r : XIsL K Ts ts) : XIsL K (T :: Ts) (t :: ts) := ⟨h, r⟩
def lkAny (n : Str) : List (List (Str × Bool)) → Option Bool
  | [] => some false
  | t :: ts => match t.lookup n, lkAny n ts with
    | some b, some c => some (b || c)
    | _, _ => none
theorem kitAny_of {K : Fg} {n : Str} {c : Addr} (hc : XNm K n c) : ∀ {Ts : List Value} {ts : List (List (Str × Bool))} {b : Bool}, XIsL K Ts ts → lkAny n ts = some b → PySem.W.kitAny K (.ref c) Ts = some b
  | [], [], _, _, h => h
  | T :: Ts, t :: ts, b, ⟨h1, h2⟩, h => by
    unfold lkAny at h
    split at h
    · rename_i b1 b2 e1 e2
      cases h
      have k1 := (h1 n b1 e1 c hc).2
      have k2 := kitAny_of hc h2 e2
      refine kitAny_cons k1 (fun hb => ?_) fun hb => by rw [hb]; rfl
      rw [hb, Bool.false_or]; exact k2
    · cases h
  | [], _ :: _, _, h, _ => h.elim
  | _ :: _, [], _, h, _ => h.elim
theorem excOf {K : Fg} {n : Str} {c : Addr} (hc : XNm K n c) {T : Value} {Ts : List Value} {ts : List (List (Str × Bool))} {b : Bool} (h : XIsL K (T :: Ts) ts) (e : lkAny n ts = some b) : ExcC K c := by
  cases ts with
  | nil => exact h.elim
  | cons t ts =>
    unfold lkAny at e
    split at e
    · rename_i b1 b2 e1 e2
      exact (h.1 n b1 e1 c hc).1
    · cases e
def tVs : List V → TA
  | [] => tNil
  | v :: vs => tCons (tC v) (tVs vs)
theorem tVs_read : ∀ {vs : List V} {σ : L2.St} {H : Hp} {Q : List V → Hp → Prop}, Q vs H → tVs vs σ H Q
  | [], _, _, _, h => h
  | v :: vs, σ, H, Q, h => tVs_read (vs := vs) (Q := fun us H1 => Q (v :: us) H1) h
def rIsWT (K : Fg) (a : Addr) (cls : Value) (d : Option Addr) : List V → Hp → VK → Prop := fun xs H Q => ∃ (tp : Addr) (cs : List V) (us : List Value) (b : Bool) (D0 : Addr), xs = [.ref a, .ref tp] ∧ H tp = some (.tup cs) ∧ Paired ClsV cs us ∧ cls = .ref D0 ∧ ExcC K D0 ∧ PySem.W.kitAny K (.ref D0) us = some b ∧ (∀ dx, d = some dx → ∃ fvs, H dx = some (.xd fvs)) ∧ Q (.bl b) H
theorem call_isWT {X : Cx} {a : Addr} {oe : Obj} {cls : Value} {d : Option Addr} {pn : List (Addr × Obj)} (hz : Zc cls d oe) (hf : ∃ vs, oe.data = .fields vs) : CallR (X.suite a ((a, oe) :: pn)) (.builtin "isinstance") (rIsWT X.K a cls d) := by
  intro pins s σ H xs us Q I r h
  obtain ⟨tp, cs, ws, b, D0, rfl, hT, k, hcl, C, e, hd, q⟩ := h
  cases r with
  | cons rx rr =>
    cases rr with
    | cons rt rr =>
      cases rr
      cases rx
      cases rt
      obtain ⟨_, its, rv, o, h1, h2, n, h3⟩ := (show ObjOk X.prog X.w H s.heap tp (.tup cs) from I.hok tp _ hT)
      have e3 := ClsV.all k rv
      subst e3
      obtain ⟨oc2, od2, dt2, sl2⟩ := o
      simp only at h2 h3
      subst h2 h3
      obtain ⟨hget, _⟩ := I.pin (a, oe) (List.mem_append.mpr (.inl List.mem_cons_self))
      obtain ⟨vs, hv⟩ := hf
      have hcls : (PySem.W.clsIn X.K D0).isSome = true := by
        obtain ⟨cd, hc, _⟩ := PySem.W.any_some C.hd
        rw [hc]; rfl
      cases d with
      | none =>
        have J : PySem.W.InstAt s.heap a oe D0 none := by
          obtain ⟨oc, od, oda, osl⟩ := oe
          obtain ⟨h1, h2, _⟩ := hz
          dsimp only at h1 h2 hv
          subst h1 h2 hv
          exact ⟨hget, hcl, rfl, trivial⟩
        exact PySem.W.kia_tup (PySem.W.kitx_exc hcls C.hg C.hk C.hs C.ha C.hn C.ht C.hm) I.kIn J h1 e (fun z => nomatch z) fun tk => ⟨.bl b, H, I.kept (t' := tk) fun _ _ z => z, rfl, q⟩
      | some dx =>
        obtain ⟨fvs, hx⟩ := hd dx rfl
        have hx2 : ObjOk X.prog X.w H s.heap dx (.xd fvs) := I.hok dx _ hx
        obtain ⟨mA, hns, hr⟩ := hx2
        obtain ⟨od, ho, hl⟩ := lookIn_ns hns
        have J : PySem.W.InstAt s.heap a oe D0 (some od) := ⟨hget, by rw [hz.1]; exact hcl, by unfold PySem.W.notCls; rw [hv] <;> rfl, by rw [hz.2.1]; exact ho⟩
        exact PySem.W.kia_tup (PySem.W.kitx_exc hcls C.hg C.hk C.hs C.ha C.hn C.ht C.hm) I.kIn J h1 e (fun z => nomatch z) fun tk => ⟨.bl b, H, I.kept (t' := tk) fun _ _ z => z, rfl, q⟩
def mXisT (n : Str) (a : Addr) (tabs : List (List (Str × Bool))) (mo : DTE) : DTE := fun Γ Q => mo Γ fun r Γ1 => r = .val (.cls a) ∧ ∃ b, lkAny n tabs = some b ∧ Q (.val (.bl b)) Γ1
section
variable {X : Cx} {C : Ctx} {cls : Value} {d : Option Addr} {n f : Str} {fvs : List (Str × V)} {fds : List (Str × D)} {a : Addr} {to : TE} {mo : DTE} {Γ : Env} {O : List Addr} {σ : L2.St} {H : Hp}
theorem sim_xisT {cs : List V} {T : Value} {Ts : List Value} {tabs : List (List (Str × Bool))} (hl : cs.length ≤ 100) (hp : Paired ClsV cs (T :: Ts)) (hx : XIsL C.K (T :: Ts) tabs) (ho : SimE (sctx C cls n d fvs) to mo) : SimE (sctx C cls n d fvs) (tCB (rIsWT C.K a cls d) (tCons to (tCons (tTup (tVs cs)) tNil))) (mXisT n a tabs mo) := fun Γ O σ H Qd Q R h k => by
  refine ho Γ O σ H _ _ R h fun r Γ1 x H1 R1 e1 q1 => ?_
  obtain ⟨rfl, b, hb, q⟩ := q1
  obtain ⟨R1, rr⟩ := R1
  cases rr
  obtain ⟨c, hc, hn⟩ := suite_cls R1
  refine tVs_read ?_
  refine ⟨Nat.le_trans hl (by decide), fun pp hpp => ?_⟩
  have es : Same (hide O H1) (hide O (upd H1 pp (.tup cs))) := hide_new hpp rfl
  have R2 := R1.alloc (o := .tup cs) hpp
  exact ⟨pp, cs, _, b, c, rfl, upd_same, hp, hc, excOf hn hx hb, kitAny_of hn hx hb, fun dx e => ⟨fvs, suite_xd R2 dx e⟩, k (.val (.bl b)) Γ1 _ _ ⟨R2, .bl b⟩ (.val (L2.Same.trans e1.1 es)) q⟩
end
section
variable {X : Cx} {C : Ctx} {cls : Value} {d : Option Addr} {n : Str} {fvs : List (Str × V)} {fds : List (Str × D)} {a : Addr} {oe : Obj} {pn : List (Addr × Obj)} {to : TE} {mo : DTE} {o : Expr} {p pos tpos : Pos} {es : List Expr} {n1 : Nat}
theorem de_xisT {cs : List V} {T : Value} {Ts : List Value} {tabs : List (List (Str × Bool))} (hz : Zc cls d oe) (hf : ∃ vs, oe.data = .fields vs) (hg : Gl (X.suite a ((a, oe) :: pn)) "isinstance") (hm : (X.suite a ((a, oe) :: pn)).mg "isinstance" = none) (ho : DE (X.suite a ((a, oe) :: pn)) (sctx C cls n d fvs) o to mo) (hT : PA (X.suite a ((a, oe) :: pn)) es (tVs cs)) (hl : cs.length ≤ 100) (hp : Paired ClsV cs (T :: Ts))
    {K0 : Fg} (hK0 : X.K = K0 := by rfl) (hK : K0 = C.K := by rfl) (hx : XIsL K0 (T :: Ts) tabs)
    (he : starEach [o, .Tuple es n1 tpos] (X.suite a ((a, oe) :: pn)).env = (false, eval o (X.suite a ((a, oe) :: pn)).env) :: starEach [.Tuple es n1 tpos] (X.suite a ((a, oe) :: pn)).env := by rfl) (he2 : starEach [.Tuple es n1 tpos] (X.suite a ((a, oe) :: pn)).env = (false, eval (.Tuple es n1 tpos) (X.suite a ((a, oe) :: pn)).env) :: starEach [] (X.suite a ((a, oe) :: pn)).env := by rfl) (hpl : (backTo pos (starEach [.Tuple es n1 tpos] (X.suite a ((a, oe) :: pn)).env)).any (·.1) = false := by rfl) :
    DE (X.suite a ((a, oe) :: pn)) (sctx C cls n d fvs) (.Call (.Name "isinstance" p) [o, .Tuple es n1 tpos] [] pos) (tCB (rIsWT K0 a cls d) (tCons to (tCons (tTup (tVs cs)) tNil))) (mXisT n a tabs mo) := by
  subst hK0
  exact ⟨pe_callB (call_isWT hz hf) hg hm (by decide +kernel) (pa_cons ho.pe (pa_cons (pe_tup hT) pa_nil he2) he) (he := he) (hpl := hpl), by rw [hK]; exact sim_xisT hl hp (hK ▸ hx) ho.sim⟩
variable {Γ : Env} {Q : QE} {tabs : List (List (Str × Bool))} {b : Bool}
def xikT (n : Str) (a : Addr) (tabs : List (List (Str × Bool))) (r : Res) (Γ1 : Env) (Q : QE) : Prop := r = .val (.cls a) ∧ ∃ b, lkAny n tabs = some b ∧ Q (.val (.bl b)) Γ1
theorem e_XisT (h : mo Γ fun r Γ1 => xikT n a tabs r Γ1 Q) : mXisT n a tabs mo Γ Q := h
theorem e_xisT (h1 : lkAny n tabs = some b) (h : Q (.val (.bl b)) Γ) : xikT n a tabs (.val (.cls a)) Γ Q := ⟨rfl, _, h1, h⟩
theorem e_xisTT (h1 : lkAny n tabs = some true) (h : Q (.val (.bl true)) Γ) : xikT n a tabs (.val (.cls a)) Γ Q := e_xisT h1 h
theorem e_xisTF (h1 : lkAny n tabs = some false) (h : Q (.val (.bl false)) Γ) : xikT n a tabs (.val (.cls a)) Γ Q := e_xisT h1 h
end
theorem e_eqkI {Γ : Env} {Q : QE} {z : Bool} (h : Q (.val (.bl z)) Γ) : eqk id Γ Q false (.bl z) [] := eqk_in h
theorem e_eqkF {Γ : Env} {Q : QE} (h : Q (.val (.bl true)) Γ) : eqk (fun b => !b) Γ Q false (.bl false) [] := eqk_in h
theorem e_eqkT {Γ : Env} {Q : QE} (h : Q (.val (.bl false)) Γ) : eqk (fun b => !b) Γ Q false (.bl true) [] := eqk_in h
end DL
namespace DL
open PySem PySem.Spec PyProof.Rows L2
/-! range(i, j, c) -/
def rngC (lo c : Int) (n : Nat) : List D := (List.range n).map fun i => D.int (lo + (i : Nat) * c)
def mRng3 (ma : DTA) : DTI := fun Γ Q => ma Γ fun rs Γ1 => ∃ (i j c : Int) (n : Nat), rs = [.val (.int i), .val (.int j), .val (.int c)] ∧ RgC i j c n ∧ Q .no (rngC i c n) Γ1
section
variable {Γ : Env} {ma : DTA}
def rg3k (rs : List Res) (Γ1 : Env) (Q : Src → List D → Env → Prop) : Prop := ∃ (i j c : Int) (n : Nat), rs = [.val (.int i), .val (.int j), .val (.int c)] ∧ RgC i j c n ∧ Q .no (rngC i c n) Γ1
theorem w_Rng3 {Q : Src → List D → Env → Prop} (h : ma Γ fun rs Γ1 => rg3k rs Γ1 Q) : mRng3 ma Γ Q := h
theorem w_down {Q : Src → List D → Env → Prop} {i j : Int} (h1 : -(2 ^ 62) ≤ i ∧ i < 2 ^ 62 ∧ -(2 ^ 62) ≤ j ∧ j < 2 ^ 62) (h : Q .no (rngC i (-1) (i - j).toNat) Γ) : rg3k [.val (.int i), .val (.int j), .val (.int (-1))] Γ Q := ⟨i, j, -1, _, rfl, RgC.neg h1.1 h1.2.1 h1.2.2.1 h1.2.2.2, h⟩
end
end DL
/-! tuple + tuple; x or y, x and y of any values by their truth -/
namespace DL
open PySem PySem.Spec PyProof.Rows L2
section
variable {X : Cx} {K : Fg} {C : Ctx} {ta tb : TE} {ma mb : DTE} {a b : Expr} {pos : Pos} {Γ : Env}
def catTD : D → D → (Res → Prop) → Prop
  | .tup xs, .tup ys, Q => xs.length + ys.length ≤ 100000 ∧ Q (.val (.tup (xs ++ ys)))
  | _, _, _ => False
def truthD : D → Option Bool
  | .non => some false
  | .bl b => some b
  | .int i => some (i != 0)
  | .tup ds => some (!ds.isEmpty)
  | _ => none
def mOrT (ma mb : DTE) : DTE := fun Γ Q => ma Γ fun r Γ1 => ∃ d b, r = .val d ∧ truthD d = some b ∧ if b = true then Q (.val d) Γ1 else mb Γ1 Q
/-! evaluator -/
theorem i_catA {xs ys : List D} {Q : Res → Prop} (h2 : xs.length + ys.length ≤ 100000) (h : Q (.val (.tup (xs ++ ys)))) : catTD (.tup xs) (.tup ys) Q := ⟨h2, h⟩
def ort (r : Res) (Γ : Env) (mb : DTE) (Q : QE) : Prop := ∃ d b, r = .val d ∧ truthD d = some b ∧ if b = true then Q (.val d) Γ else mb Γ Q
theorem e_OrT {Q : QE} (h : ma Γ fun r Γ1 => ort r Γ1 mb Q) : mOrT ma mb Γ Q := h
end
end DL
/-! the data layer, part 77: a pair whose second part is a new list is handed back, and that list is changed -/
namespace DL
open PySem PySem.Spec PyProof.Rows L2 RT
/-! ### return a, b; b a new list -/
def mRetNP (m0 m1 : DTE) : DTS := fun D Γ => m0 Γ fun r0 Γ1 => m1 Γ1 fun r1 Γ2 => ∃ a ds Γ3, dat r0 = some a ∧ ((r1 = .fr (.lst ds) ∧ Γ3 = Γ2) ∨ ∃ i, r1 = .pl i ∧ Γ2[i]? = some (.ow (.lst ds)) ∧ Γ3 = Γ2.set i (.sh (.lst ds))) ∧ D.rt (.np a ds) Γ3
/-! ### name = f(..) that hands such a pair back; looks; name[1].append(..) -/
/-- what the changes ask: an argument that is there -/
def mKill (n : Nat) (nx : Env → Prop) (Γk : Env) (ma : DTA) : Env → Prop := fun Γ => Γ.length = n ∧ ma Γ fun rs Γ1 => (∃ d, dats rs = some [d]) ∧ nx Γk
def mNp (i : Nat) (mask : List Bool) (me : DTE) (mm : DTS) (mt : DTT) (ma : DTA) : DTS := fun D Γ => freeE mask Γ = true ∧ mask[i]? = some true ∧ me (boxE mask Γ) fun r Γ1 => Γ1 = boxE mask Γ ∧ ((∃ a ds, r = .np a ds ∧ ds.length < 100000 ∧
  mm ⟨fun Γ3 => mt Γ3 fun b Γ4 => if b = true then mKill Γ.length D.nx (killE mask Γ) ma Γ4 else Γ4.length = Γ.length ∧ D.nx (killE mask Γ), fun r Γ3 => Γ3.length = Γ.length ∧ ∃ d, r = .val d ∧ scal d = true ∧ D.rt (.val d) (killE mask Γ), fun _ => False, fun _ => False⟩ ((boxE mask Γ).set i (.bo (.tup [a, .lst ds])))) ∨ ∃ d, r = .val d ∧
  mm ⟨fun Γ3 => mt Γ3 fun b Γ4 => b = false ∧ Γ4.length = Γ.length ∧ D.nx (killE mask Γ), fun r Γ3 => Γ3.length = Γ.length ∧ ∃ d, r = .val d ∧ scal d = true ∧ D.rt (.val d) (killE mask Γ), fun _ => False, fun _ => False⟩ ((boxE mask Γ).set i (.bo d)))
/-! evaluator -/
section
variable {Γ Γ' Γ2 Γk : Env} {nx bk ct : Env → Prop} {rt : Res → Env → Prop} {d a : D} {ds : List D} {me m0 m1 : DTE} {mm : DTS} {mt : DTT} {ma : DTA} {i n : Nat} {mask : List Bool} {rs : List Res} {r0 r1 : Res}
def npn (n : Nat) (nx : Env → Prop) (Γk : Env) (mt : DTT) (ma : DTA) : Env → Prop := fun Γ3 => mt Γ3 fun b Γ4 => if b = true then mKill n nx Γk ma Γ4 else Γ4.length = n ∧ nx Γk
def npv (n : Nat) (p : Prop) (mt : DTT) : Env → Prop := fun Γ3 => mt Γ3 fun b Γ4 => b = false ∧ Γ4.length = n ∧ p
def npk (i : Nat) (mask : List Bool) (mm : DTS) (mt : DTT) (ma : DTA) (nx : Env → Prop) (rt : Res → Env → Prop) (Γ : Env) (r : Res) (Γ1 : Env) : Prop := Γ1 = boxE mask Γ ∧ ((∃ a ds, r = .np a ds ∧ ds.length < 100000 ∧
  mm ⟨npn Γ.length nx (killE mask Γ) mt ma, bxr Γ rt (killE mask Γ), fun _ => False, fun _ => False⟩ ((boxE mask Γ).set i (.bo (.tup [a, .lst ds])))) ∨ ∃ d, r = .val d ∧ mm ⟨npv Γ.length (nx (killE mask Γ)) mt, bxr Γ rt (killE mask Γ), fun _ => False, fun _ => False⟩ ((boxE mask Γ).set i (.bo d)))
theorem s_Np (h1 : freeE mask Γ = true) (h2 : mask[i]? = some true) (h3 : boxE mask Γ = Γ') (h : me Γ' fun r Γ1 => npk i mask mm mt ma nx rt Γ r Γ1) : mNp i mask me mm mt ma (.mk nx rt bk ct) Γ := by subst h3; exact ⟨h1, h2, h⟩
theorem s_npk (h3 : boxE mask Γ = Γ') (h5 : killE mask Γ = Γk) (h6 : Γ'.set i (.bo (.tup [a, .lst ds])) = Γ2) (h0 : ds.length < 100000) (h : mm (.mk (npn Γ.length nx Γk mt ma) (bxr Γ rt Γk) (fun _ => False) (fun _ => False)) Γ2) : npk i mask mm mt ma nx rt Γ (.np a ds) Γ' := by
  subst h3; subst h5; subst h6
  exact ⟨rfl, .inl ⟨a, ds, rfl, h0, h⟩⟩
theorem s_npkV (h3 : boxE mask Γ = Γ') (h5 : killE mask Γ = Γk) (h6 : Γ'.set i (.bo d) = Γ2) (h : mm (.mk (npv Γ.length (nx Γk) mt) (bxr Γ rt Γk) (fun _ => False) (fun _ => False)) Γ2) : npk i mask mm mt ma nx rt Γ (.val d) Γ' := by
  subst h3; subst h5; subst h6
  exact ⟨rfl, .inr ⟨d, rfl, h⟩⟩
def npw (n : Nat) (p : Prop) (b : Bool) (Γ : Env) : Prop := b = false ∧ Γ.length = n ∧ p
theorem s_npv {p : Prop} (h : mt Γ fun b Γ4 => npw n p b Γ4) : npv n p mt Γ := h
theorem s_npw {p : Prop} {b : Bool} (h0 : b = false) (h1 : Γ.length = n) (h : p) : npw n p b Γ := ⟨h0, h1, h⟩
def npe (n : Nat) (p : Prop) (Γ : Env) : Prop := Γ.length = n ∧ p
theorem s_npn (h : mt Γ fun b Γ4 => if b = true then mKill n nx Γk ma Γ4 else npe n (nx Γk) Γ4) : npn n nx Γk mt ma Γ := h
def klk (rs : List Res) (p : Prop) : Prop := (∃ d, dats rs = some [d]) ∧ p
theorem s_kill (h1 : Γ.length = n) (h : ma Γ fun rs _ => klk rs (nx Γk)) : mKill n nx Γk ma Γ := ⟨h1, h⟩
theorem s_klk {p : Prop} (h1 : dats rs = some [d]) (h : p) : klk rs p := ⟨⟨d, h1⟩, h⟩
theorem s_npe {p : Prop} (h1 : Γ.length = n) (h : p) : npe n p Γ := ⟨h1, h⟩
def rnp (rt : Res → Env → Prop) (r0 r1 : Res) (Γ2 : Env) : Prop := ∃ a ds Γ3, dat r0 = some a ∧ ((r1 = .fr (.lst ds) ∧ Γ3 = Γ2) ∨ ∃ i, r1 = .pl i ∧ Γ2[i]? = some (.ow (.lst ds)) ∧ Γ3 = Γ2.set i (.sh (.lst ds))) ∧ rt (.np a ds) Γ3
theorem s_RetNP (h : m0 Γ fun r0 Γ1 => m1 Γ1 fun r1 Γ2 => rnp rt r0 r1 Γ2) : mRetNP m0 m1 (.mk nx rt bk ct) Γ := h
theorem s_rnpF (h1 : dat r0 = some a) (h : rt (.np a ds) Γ) : rnp rt r0 (.fr (.lst ds)) Γ := ⟨a, ds, Γ, h1, .inl ⟨rfl, rfl⟩, h⟩
theorem s_rnpP (h1 : dat r0 = some a) (h2 : Γ[i]? = some (.ow (.lst ds))) (h3 : Γ.set i (.sh (.lst ds)) = Γ') (h : rt (.np a ds) Γ') : rnp rt r0 (.pl i) Γ := ⟨a, ds, Γ', h1, .inr ⟨i, rfl, h2, h3.symm⟩, h⟩
theorem d_np {ms : List Md} {Qd : Bool → D → List D → Prop} {es : List D} (h1 : iosD ms Γ = es) (h : Qd true (.tup [a, .lst ds]) es) : rtD ms Qd (.np a ds) Γ := by subst h1; exact h
theorem bag_frD {b : D} (h : BagD b) : frOf b = .fr b := by
  obtain ⟨_, _, _, _, rfl, -⟩ := h
  rfl
end
end DL
/-! the data layer, part 78: sorted(d), d a dict whose keys are rows of ints -/
namespace DL
open PySem PySem.Spec PyProof.Rows L2
/-- v is a tuple of these ints in the heap -/
def IsRow (h : Heap) (v : Value) (xs : List Int) : Prop := ∃ a o its n, v = .ref a ∧ h.get? a = some o ∧ o.cls = .type "tuple" ∧ o.data = .seq (List.toArray its) n ∧ IntsAre its xs
theorem IsRow.keeps {h h' : Heap} {v : Value} {xs : List Int} (p : IsRow h v xs) (k : ∀ b o, h.get? b = some o → o.cls = .type "tuple" → h'.get? b = some o) : IsRow h' v xs := by
  obtain ⟨a, o, its, n, e, ho, hc, hd, hi⟩ := p
  exact ⟨a, o, its, n, e, k _ _ ho hc, hc, hd, hi⟩
end DL
namespace DL
open PySem PySem.Spec PyProof.Rows L2
end DL
namespace DL
open PySem PySem.Spec PyProof.Rows L2
theorem RepT.keys {K : Fg} {H : Hp} : ∀ {vs : List (List L2.Key × V)} {ds : List (List L2.Key × D)}, RepT K H vs ds → vs.map (·.1) = ds.map (·.1)
  | _, _, .nil => rfl
  | _, _, .cons _ r => by rw [List.map_cons, List.map_cons, RepT.keys r]
end DL
/-! the data layer, part 79: own exceptions without fields; an own + that may raise -/
namespace DL
open PySem PySem.Spec PyProof.Rows L2
def mRaise0 (Wd : Dwx) (n : Str) : DTS := fun _ Γ => Wd n [] Γ
theorem s_Raise0 {Wd : Dwx} {n : Str} {nx bk ct : Env → Prop} {rt : Res → Env → Prop} {Γ : Env} (h : Wd n [] Γ) : mRaise0 Wd n (.mk nx rt bk ct) Γ := h
/-! ### an own + that may raise -/
end DL
/-! the data layer, part 80: walks over dicts whose keys are tuples -/
namespace DL
open PySem PySem.Spec PyProof.Rows L2
/-! ### over data -/
def keyT (k : List L2.Key) : D := .tup (k.map keyD)
def itemT (p : List L2.Key × D) : D := .tup [keyT p.1, p.2]
def mKeysWT (m : DTE) : DTI := fun Γ Q => m Γ fun r Γ1 => ∃ kvs, r = .val (.dtl kvs) ∧ ∀ o vs, Q (.v2 (.pnT o vs) (.dtl kvs)) (kvs.map fun p => keyT p.1) Γ1
def mItemsWT (m : DTE) : DTI := fun Γ Q => m Γ fun r Γ1 => ∃ kvs, r = .val (.dtl kvs) ∧ ∀ o vs, Q (.v2 (.pnT o vs) (.dtl kvs)) (kvs.map itemT) Γ1
section
variable {K : Fg} {d : Addr} {o : Obj} {vs : List (List L2.Key × V)} {kvs : List (List L2.Key × D)}
def gT (K : Fg) (d : Addr) (o : Obj) (vs : List (List L2.Key × V)) (kvs : List (List L2.Key × D)) : List Addr → Hp → Prop := fun O H => Rep K (hide O H) (.ref d) (.pnT o vs) ∧ Rep K (hide O H) (.ref d) (.dtl kvs)
end
def kwT (f : List L2.Key × D → D) (r : Res) (Γ : Env) (Q : Src → List D → Env → Prop) : Prop := ∃ kvs, r = .val (.dtl kvs) ∧ ∀ o vs, Q (.v2 (.pnT o vs) (.dtl kvs)) (kvs.map f) Γ
theorem w_KeysWT {mo : DTE} {Γ : Env} {Q : Src → List D → Env → Prop} (h : mo Γ fun r Γ1 => kwT (fun p => keyT p.1) r Γ1 Q) : mKeysWT mo Γ Q := h
theorem w_ItemsWT {mo : DTE} {Γ : Env} {Q : Src → List D → Env → Prop} (h : mo Γ fun r Γ1 => kwT itemT r Γ1 Q) : mItemsWT mo Γ Q := h
theorem w_kwT {f : List L2.Key × D → D} {Γ : Env} {Q : Src → List D → Env → Prop} {kvs : List (List L2.Key × D)} (h : ∀ o vs, Q (.v2 (.pnT o vs) (.dtl kvs)) (kvs.map f) Γ) : kwT f (.val (.dtl kvs)) Γ Q := ⟨kvs, rfl, h⟩
end DL
/-! the data layer, part 81: len(set(l)), l a list of ints -/
namespace DL
open PySem PySem.Spec PyProof.Rows L2
/-- how many different ones -/
def difN (ns : List Int) : Nat := (firstMet (fun i => ns.getD i 0) ns.length).length
theorem difN_le (ns : List Int) : difN ns ≤ ns.length := firstMet_length_le _ _
def mLenSet (ma : DTE) : DTE := fun Γ Q => ma Γ fun r Γ1 => ∃ ds ns, rd Γ1 r = some (.lst ds) ∧ ints? ds = some ns ∧ difN ns < 4000 ∧ Q (.val (.int (difN ns))) Γ1
def lsz (r : Res) (Γ : Env) (Q : QE) : Prop := ∃ ds ns, rd Γ r = some (.lst ds) ∧ ints? ds = some ns ∧ difN ns < 4000 ∧ Q (.val (.int (difN ns))) Γ
theorem e_LenSet {ma : DTE} {Γ : Env} {Q : QE} (h : ma Γ fun r Γ1 => lsz r Γ1 Q) : mLenSet ma Γ Q := h
theorem e_lenset {r : Res} {Γ : Env} {Q : QE} {l : List Int} (h1 : rd Γ r = some (.lst (l.map D.int))) (h2 : difN l < 4000) (h : Q (.val (.int (difN l))) Γ) : lsz r Γ Q := ⟨_, l, h1, ints?_map l, h2, h⟩
end DL
/-! the data layer, part 82: x in a tuple of flat things -/
namespace DL
open PySem PySem.Spec PyProof.Rows L2
def flV : D → Option V
  | .non => some .non
  | .bl b => some (.bl b)
  | .int i => some (.int i)
  | .str s => some (.str s)
  | _ => none
def eqF (x y : D) : Bool := match flV x, flV y with
  | some a, some b => eqV a b
  | _, _ => false
def inFD : D → D → (Res → Prop) → Prop
  | x, .tup ds, Q => (flV x).isSome = true ∧ (ds.all fun z => (flV z).isSome) = true ∧ Q (.val (.bl (ds.any fun z => eqF z x)))
  | _, _, _ => False
def ninFD (x y : D) (Q : Res → Prop) : Prop := inFD x y fun r => ∃ b, r = .val (.bl b) ∧ Q (.val (.bl (!b)))
theorem i_inF {x : D} {ds : List D} {b : Bool} {Q : Res → Prop} (h1 : (flV x).isSome = true) (h2 : (ds.all fun z => (flV z).isSome) = true) (h3 : (ds.any fun z => eqF z x) = b) (h : Q (.val (.bl b))) : inFD x (.tup ds) Q := ⟨h1, h2, by rw [h3]; exact h⟩
theorem i_ninF {x : D} {ds : List D} {b : Bool} {Q : Res → Prop} (h1 : (flV x).isSome = true) (h2 : (ds.all fun z => (flV z).isSome) = true) (h3 : (ds.any fun z => eqF z x) = b) (h : Q (.val (.bl (!b)))) : ninFD x (.tup ds) Q := ⟨h1, h2, b, h3 ▸ rfl, h⟩
/-! ### texts that are known -/
theorem i_eqC {x y : Str} {b : Bool} {Q : Res → Prop} (h1 : okE (.str x) = true) (h2 : okE (.str y) = true) (h3 : (x == y) = b) (h : Q (.val (.bl b))) : eqD (.str x) (.str y) Q := ⟨h1, h2, by rw [eqv_ssS, h3]; exact h⟩
theorem i_neC {x y : Str} {b : Bool} {Q : Res → Prop} (h1 : okE (.str x) = true) (h2 : okE (.str y) = true) (h3 : (x == y) = b) (h : Q (.val (.bl (!b)))) : neD (.str x) (.str y) Q := ⟨h1, h2, by rw [eqv_ssS, h3]; exact h⟩
end DL
/-! the data layer, part 83: pinned slots; a table: an own list of own lists of ints -/
namespace DL
open PySem L2
/-! ### tables -/
end DL
/-! the data layer, part 84: x in a tuple of trees -/
namespace DL
open PySem PySem.Spec PyProof.Rows L2
/-! a tuple compared with () (whatever it holds) -/
def emtD : D → D → (Res → Prop) → Prop
  | .tup ds, .tup [], Q => Q (.val (.bl ds.isEmpty))
  | _, _, _ => False
theorem i_eqEmT {ds : List D} {Q : Res → Prop} (h : Q (.val (.bl ds.isEmpty))) : emtD (.tup ds) (.tup []) Q := h
end DL
/-! the data layer, part 85: str(list) -/
namespace DL
open PySem PySem.Spec PyProof.Rows L2
end DL
set_option maxHeartbeats 2000000
/-! the data layer, part 86: list(zip(a, b)); a display of texts by texts -/
namespace ZL
open PySem
open PySem.Sem (wp)
theorem zip_no_len : typeLookup (.type "zip") "__len__" = pure none := by rw [typeLookup_type, builtinLookup_eq_fast]; kernel_rfl
theorem zip_no_hint : typeLookup (.type "zip") "__length_hint__" = pure none := by rw [typeLookup_type, builtinLookup_eq_fast]; kernel_rfl
/-- a zip of two lists on its way; S is a list apart -/
structure Way (S z TI TO i1 i2 l1 l2 : Addr) (xs ys : Array Value) (i : Nat) (h : Heap) : Prop where
  pr : IsPair h TI (.ref i1) (.ref i2)
  w1 : h.IsListIter i1 l1 i
  w2 : h.IsListIter i2 l2 i
  q1 : h.IsList l1 xs
  q2 : h.IsList l2 ys
  st : (IsZip h z TI TO .none ∧ ∃ a b, IsPair h TO a b) ∨ ∃ T f oT, IsZipHeld h z TI TO T f ∧ h.get? T = some oT ∧ T ≠ z ∧ T ≠ i1 ∧ T ≠ i2 ∧ T ≠ S
structure Off (S z TI TO i1 i2 l1 l2 : Addr) : Prop where
  z : z ≠ S
  TI : TI ≠ S
  TO : TO ≠ S
  i1 : i1 ≠ S
  i2 : i2 ≠ S
  l1 : l1 ≠ S
  l2 : l2 ≠ S
section
variable {prog : Program} {w : World} {A : Around} {E : Value → Shared → Prop} {s : Shared} {S z TI TO i1 i2 l1 l2 : Addr} {xs ys : Array Value} {i : Nat}
theorem Way.keep {h h' : Heap} (W : Way S z TI TO i1 i2 l1 l2 xs ys i h) (O : Off S z TI TO i1 i2 l1 l2) (hk : ∀ b o, b ≠ S → h.get? b = some o → h'.get? b = some o) : Way S z TI TO i1 i2 l1 l2 xs ys i h' where
  pr := hk _ _ O.TI W.pr
  w1 := W.w1.at fun o e => hk _ o O.i1 e
  w2 := W.w2.at fun o e => hk _ o O.i2 e
  q1 := W.q1.at fun o e => hk _ o O.l1 e
  q2 := W.q2.at fun o e => hk _ o O.l2 e
  st := by
    rcases W.st with ⟨a, x, y, b⟩ | ⟨T, f, oT, a, b, c1, c2, c3, c4⟩
    · exact .inl ⟨hk _ _ O.z a, x, y, hk _ _ O.TO b⟩
    · exact .inr ⟨T, f, oT, hk _ _ O.z a, hk _ _ c4 b, c1, c2, c3, c4⟩
theorem Way.item {x y : Value} {Q : Option Value → Shared → Prop} (D : ZipApart z TI TO i1 i2 l1 l2) (W : Way S z TI TO i1 i2 l1 l2 xs ys i s.heap) (hS : S < s.heap.objs.size) (hx : xs[i]? = some x) (hy : ys[i]? = some y)
    (hQ : ∀ h', Way S z TI TO i1 i2 l1 l2 xs ys (i + 1) h' → IsPair h' s.heap.objs.size x y → (∀ c o, c ≠ z → c ≠ TO → c ≠ i1 → c ≠ i2 → s.heap.get? c = some o → h'.get? c = some o) → Q (some (.ref s.heap.objs.size)) { s with heap := h' }) :
    wpAny (model prog w) A (pyNext (.ref z)) Q E s := by
  have lt : ∀ {c o}, s.heap.get? c = some o → s.heap.objs.size ≠ c := fun e => Nat.ne_of_gt (Heap.lt_size e)
  have n1 : s.heap.objs.size ≠ i1 := let ⟨_, e, _⟩ := W.w1; lt e
  have n2 : s.heap.objs.size ≠ i2 := let ⟨_, e, _⟩ := W.w2; lt e
  rcases W.st with ⟨hz, a, b, hTO⟩ | ⟨T, f, oT, hz, hT, c1, c2, c3, c4⟩
  · refine wpAny_pyNext_zip_item D hz W.pr hTO W.w1 W.w2 W.q1 W.q2 hx hy fun h' a1 a2 a3 a4 a5 a6 hk => hQ h' ?_ a5 hk
    exact ⟨hk _ _ D.TIz D.TITO D.TIi1 D.TIi2 W.pr, a3, a4, W.q1.at fun o e => hk _ o D.l1z D.l1TO D.l1i1 D.l1i2 e, W.q2.at fun o e => hk _ o D.l2z D.l2TO D.l2i1 D.l2i2 e, .inr ⟨s.heap.objs.size, false, _, a1, a5, lt hz, n1, n2, Nat.ne_of_gt hS⟩⟩
  · refine wpAny_pyNext_zip_item_held D hz hT W.pr W.w1 W.w2 W.q1 W.q2 hx hy fun h' a1 a3 a4 a5 a6 hk => hQ h' ?_ a5 fun c o d1 _ d3 d4 e => hk c o d1 d3 d4 e
    exact ⟨hk _ _ D.TIz D.TIi1 D.TIi2 W.pr, a3, a4, W.q1.at fun o e => hk _ o D.l1z D.l1i1 D.l1i2 e, W.q2.at fun o e => hk _ o D.l2z D.l2i1 D.l2i2 e, .inr ⟨T, true, oT, a1, hk _ _ c1 c2 c3 hT, c1, c2, c3, c4⟩⟩
theorem Way.done {Q : Option Value → Shared → Prop} (hh : A.handled = none) (D : ZipApart z TI TO i1 i2 l1 l2) (W : Way S z TI TO i1 i2 l1 l2 xs ys i s.heap) (hend : xs[i]? = none ∨ ys[i]? = none)
    (hQ : ∀ h', (∀ c o, c ≠ z → c ≠ TO → c ≠ i1 → c ≠ i2 → s.heap.get? c = some o → h'.get? c = some o) → Q none { s with heap := h' }) :
    wpAny (model prog w) A (pyNext (.ref z)) Q E s := by
  rcases W.st with ⟨hz, a, b, hTO⟩ | ⟨T, f, oT, hz, hT, c1, c2, c3, c4⟩
  · exact wpAny_pyNext_zip_end hh D hz W.pr hTO W.w1 W.w2 W.q1 W.q2 hend hQ
  · exact wpAny_pyNext_zip_end_held hh D hz hT W.pr W.w1 W.w2 W.q1 W.q2 hend fun h' hk => hQ h' fun c o d1 _ d3 d4 e => hk c o d1 d3 d4 e
/-- the pairs that were made, all at or above lo -/
structure Got (xs ys : Array Value) (lo : Addr) (h : Heap) (as : List Addr) : Prop where
  rise : as.Pairwise (· < ·)
  above : ∀ a ∈ as, lo ≤ a
  pairs : ∀ (j : Nat) a, as[j]? = some a → ∃ x y, xs[j]? = some x ∧ ys[j]? = some y ∧ IsPair h a x y
theorem Got.there {lo : Addr} {h : Heap} {as : List Addr} (g : Got xs ys lo h as) {a : Addr} (ha : a ∈ as) : a < h.objs.size := by
  obtain ⟨j, hj, e⟩ := List.getElem_of_mem ha
  obtain ⟨x, y, _, _, p⟩ := g.pairs j a (by rw [List.getElem?_eq_getElem hj, e])
  exact Heap.lt_size p
theorem Got.keep {lo : Addr} {h h' : Heap} {as : List Addr} (g : Got xs ys lo h as) (hk : ∀ b o, lo ≤ b → h.get? b = some o → h'.get? b = some o) : Got xs ys lo h' as :=
  ⟨g.rise, g.above, fun j a e => let ⟨x, y, e1, e2, p⟩ := g.pairs j a e; ⟨x, y, e1, e2, hk _ _ (g.above a (List.mem_of_getElem? e)) p⟩⟩
theorem Got.add {lo : Addr} {h : Heap} {as : List Addr} {a : Addr} {x y : Value} (g : Got xs ys lo h as) (ha : ∀ b ∈ as, b < a) (hl : lo ≤ a) (hx : xs[as.length]? = some x) (hy : ys[as.length]? = some y) (p : IsPair h a x y) : Got xs ys lo h (as ++ [a]) where
  rise := List.pairwise_append.mpr ⟨g.rise, List.pairwise_singleton _ _, fun b hb c hc => by rw [List.mem_singleton.mp hc]; exact ha b hb⟩
  above := fun b hb => by
    rcases List.mem_append.mp hb with hb | hb
    · exact g.above b hb
    · rw [List.mem_singleton.mp hb]; exact hl
  pairs := fun j b e => by
    rcases Nat.lt_or_ge j as.length with hj | hj
    · rw [List.getElem?_append_left hj] at e
      exact g.pairs j b e
    · rw [List.getElem?_append_right hj] at e
      have hj0 : j - as.length = 0 := by
        cases hd : j - as.length with
        | zero => rfl
        | succ k => rw [hd] at e; simp at e
      rw [hj0] at e
      have e : a = b := by simpa using e
      subst e
      have : j = as.length := by omega
      subst this
      exact ⟨x, y, hx, hy, p⟩
abbrev LstAt (h : Heap) (S : Addr) (acc : Array Value) (c : Nat) : Prop := h.get? S = some { cls := .type "list", dict := none, data := .seq acc c, slots := #[] }
theorem loop {n : Nat} {lo : Addr} {R : Result → Shared → Prop} (hh : A.handled = none) (D : ZipApart z TI TO i1 i2 l1 l2) (O : Off S z TI TO i1 i2 l1 l2) (hxs : xs.size = n) (hys : ys.size = n) (hn : n ≤ sizeLine) (res : Value)
    (lz : z < lo) (lTO : TO < lo) (li1 : i1 < lo) (li2 : i2 < lo) (lS : S < lo) {h₁ : Heap}
    (hR : ∀ h' tk acc c as, (∀ b o, b ≠ S → b ≠ z → b ≠ TO → b ≠ i1 → b ≠ i2 → h₁.get? b = some o → h'.get? b = some o) → LstAt h' S acc c → as.length = n → Got xs ys lo h' as → acc.toList = as.map Value.ref → R (.ok (.ret res)) { s with heap := h', toks := tk }) :
    ∀ (k i : Nat) (h : Heap) (tk c : Nat) (acc : Array Value) (as : List Addr), n - i = k → i ≤ n → Way S z TI TO i1 i2 l1 l2 xs ys i h → (∀ b o, b ≠ S → b ≠ z → b ≠ TO → b ≠ i1 → b ≠ i2 → h₁.get? b = some o → h.get? b = some o) →
      LstAt h S acc c → acc.toList = as.map Value.ref → as.length = i → Got xs ys lo h as → lo ≤ h.objs.size →
      codeAny (model prog w) A (.builtin "list.extend.loop" ⟨[.ref S, .ref z, res], []⟩) R { s with heap := h, toks := tk } := by
  have low : ∀ {b : Addr}, lo ≤ b → b ≠ S ∧ b ≠ z ∧ b ≠ TO ∧ b ≠ i1 ∧ b ≠ i2 := fun hb => ⟨Nat.ne_of_gt (Nat.lt_of_lt_of_le lS hb), Nat.ne_of_gt (Nat.lt_of_lt_of_le lz hb), Nat.ne_of_gt (Nat.lt_of_lt_of_le lTO hb), Nat.ne_of_gt (Nat.lt_of_lt_of_le li1 hb), Nat.ne_of_gt (Nat.lt_of_lt_of_le li2 hb)⟩
  intro k
  induction k with
  | zero =>
    intro i h tk c acc as hk hi W hkeep hS hacc hal hG hlo
    obtain rfl : i = n := by omega
    refine codeAny_builtin PySem.F.entry_extend_loop ?_
    rw [Around.under_plainId PySem.F.plain_extend_loop _]
    show wpAny _ A.in1 (pyNext (.ref z) >>= _) _ _ _
    refine wpAny_bind (Way.done (s := { s with heap := h, toks := tk }) (A := A.in1) hh D W (.inl (Array.getElem?_eq_none (by omega))) fun h' he => ?_)
    exact wpAny_pure (hR h' tk acc c as (fun b o h1 h2 h3 h4 h5 e => he b o h2 h3 h4 h5 (hkeep b o h1 h2 h3 h4 h5 e)) (he S _ (Ne.symm O.z) (Ne.symm O.TO) (Ne.symm O.i1) (Ne.symm O.i2) hS) hal (hG.keep fun b o hb e => let ⟨_, d2, d3, d4, d5⟩ := low hb; he b o d2 d3 d4 d5 e) hacc)
  | succ k ih =>
    intro i h tk c acc as hk hi W hkeep hS hacc hal hG hlo
    have hlt : i < n := by omega
    have hsz : acc.size = i := by rw [← Array.length_toList, hacc, List.length_map, hal]
    refine codeAny_builtin PySem.F.entry_extend_loop ?_
    rw [Around.under_plainId PySem.F.plain_extend_loop _]
    show wpAny _ A.in1 (pyNext (.ref z) >>= _) _ _ _
    have hx := Array.getElem?_eq_getElem (xs := xs) (i := i) (by omega)
    have hy := Array.getElem?_eq_getElem (xs := ys) (i := i) (by omega)
    refine wpAny_bind (Way.item (s := { s with heap := h, toks := tk }) D W (Heap.lt_size hS) hx hy fun h' W' p hkp => ?_)
    dsimp only at p hkp ⊢
    have hS' := hkp S _ (Ne.symm O.z) (Ne.symm O.TO) (Ne.symm O.i1) (Ne.symm O.i2) hS
    have up : ∀ b o, b ≠ S → h'.get? b = some o → (h'.update S (Obj.mapSeq (·.push (Value.ref h.objs.size)))).get? b = some o := fun b o hb e => (Heap.get?_update_other _ _ (Ne.symm hb)).trans e
    have hSl : S < h.objs.size := Heap.lt_size hS
    have p' := up _ _ (Nat.ne_of_gt hSl) p
    show wpAny _ A.in1 (updateSeq S (·.push (Value.ref h.objs.size)) >>= _) _ _ _
    refine wpAny_bind ?_
    refine wpAny_updateSeq hS' rfl (wpAny_pure ⟨plainId_quiet PySem.F.plain_extend_loop _, ih (i + 1) _ tk _ (acc.push (Value.ref h.objs.size)) (as ++ [h.objs.size]) (by omega) hlt (W'.keep O up)
      (fun b o h1 h2 h3 h4 h5 e => up b o h1 (hkp b o h2 h3 h4 h5 (hkeep b o h1 h2 h3 h4 h5 e))) (Heap.get?_update_self _ hS' rfl) (by rw [Array.toList_push, hacc, List.map_append]; rfl) (by rw [List.length_append, hal]; rfl) ?_ (Nat.le_trans hlo (Nat.le_of_lt (Heap.lt_size p')))⟩) (by rw [hsz]; omega) (by show (acc.push (Value.ref h.objs.size)).size ≤ sizeLine + 1; rw [Array.size_push, hsz]; omega)
    refine Got.add (hG.keep fun b o hb e => let ⟨d1, d2, d3, d4, d5⟩ := low hb; up b o d1 (hkp b o d2 d3 d4 d5 e)) (fun b hb => hG.there hb) hlo (by rw [hal]; exact hx) (by rw [hal]; exact hy) p'
theorem extend {n : Nat} {R : Result → Shared → Prop} (hh : A.handled = none) (D : ZipApart z TI TO i1 i2 l1 l2) (O : Off S z TI TO i1 i2 l1 l2) (hxs : xs.size = n) (hys : ys.size = n) (hn : n ≤ sizeLine) (res : Value) (c₀ : Nat)
    (hz : IsZip s.heap z TI TO .none) (hTO : ∃ a b, IsPair s.heap TO a b) (hTI : IsPair s.heap TI (.ref i1) (.ref i2)) (h1 : s.heap.IsListIter i1 l1 0) (h2 : s.heap.IsListIter i2 l2 0) (q1 : s.heap.IsList l1 xs) (q2 : s.heap.IsList l2 ys)
    (hS : s.heap.get? S = some { cls := .type "list", data := .seq #[] c₀ })
    (hR : ∀ h' tk acc c as, (∀ b o, b ≠ S → b ≠ z → b ≠ TO → b ≠ i1 → b ≠ i2 → s.heap.get? b = some o → h'.get? b = some o) → LstAt h' S acc c → as.length = n → Got xs ys s.heap.objs.size h' as → acc.toList = as.map Value.ref → R (.ok (.ret res)) { s with heap := h', toks := tk }) :
    wpAny (model prog w) A.in1 (Builtin.List.listExtendWith (.ref S) (.ref z) res)
      (fun fin s' => match fin with | .done f => R (.ok f) s' | .again c' => c'.quiet = true ∧ codeAny (model prog w) A c' R s') (fun e s' => R (.error e) s') s := by
  have hT : s.TypeIs (.ref z) "zip" := ⟨_, hz, rfl⟩
  obtain ⟨a, b, hTO'⟩ := hTO
  have li1 : i1 < s.heap.objs.size := let ⟨_, e, _⟩ := h1; Heap.lt_size e
  have li2 : i2 < s.heap.objs.size := let ⟨_, e, _⟩ := h2; Heap.lt_size e
  have W : Way S z TI TO i1 i2 l1 l2 xs ys 0 s.heap := ⟨hTI, h1, h2, q1, q2, .inl ⟨hz, a, b, hTO'⟩⟩
  unfold Builtin.List.listExtendWith
  refine wpAny_bind (wpAny_typeOf hT ?_)
  have e1 : Builtin.List.listSameRef (.ref S) (.ref z) = false := by simp [Builtin.List.listSameRef, Ne.symm O.z]
  have e2 : (Value.type "zip" == Value.type "list") = false := by decide
  have e3 : (Value.type "zip" == Value.type "tuple") = false := by decide
  simp only [e1, e2, e3, Bool.or_false, Bool.false_eq_true, if_false]
  refine wpAny_bind (wpAny_pyIter_zip hz ?_)
  refine wpAny_bind (wpAny_holding ?_)
  unfold Builtin.List.listLengthHint
  refine wpAny_bind (wpAny_specialOf hT zip_no_len ?_)
  show wpAny _ A.in1 (specialOf (Value.ref z) (Str.ofString "__length_hint__") >>= _) _ _ _
  refine wpAny_bind (wpAny_specialOf hT zip_no_hint ?_)
  refine wpAny_pure ?_
  show wpAny _ A.in1 (rule "list.extend.makes-room" >>= fun _ => Builtin.List.listTouch (.ref S) >>= fun _ => again (.builtin "list.extend.loop" ⟨[.ref S, .ref z, res], []⟩)) _ _ _
  refine wpAny_bind (wpAny_rule ?_)
  refine wpAny_bind ?_
  show wpAny _ A.in1 (updateSeq S (·.push .none) >>= fun _ => updateSeq S (·.pop)) _ _ _
  refine wpAny_bind (wpAny_updateSeq hS rfl ?_)
  have hS₂ := Heap.get?_update_self (Obj.mapSeq (·.push Value.none)) hS rfl
  refine wpAny_updateSeq (hz := by seq_fits) hS₂ rfl ?_
  have hS₃ := Heap.get?_update_self (Obj.mapSeq (·.pop)) hS₂ rfl
  have oth : ∀ b o, b ≠ S → s.heap.get? b = some o → ((s.heap.update S (Obj.mapSeq (·.push Value.none))).update S (Obj.mapSeq (·.pop))).get? b = some o :=
    fun b o hb e => (Heap.get?_update_other _ _ (Ne.symm hb)).trans ((Heap.get?_update_other _ _ (Ne.symm hb)).trans e)
  have hsz : s.heap.objs.size ≤ ((s.heap.update S (Obj.mapSeq (·.push Value.none))).update S (Obj.mapSeq (·.pop))).objs.size := by
    rw [Heap.size_update, Heap.size_update]; exact Nat.le_refl _
  refine wpAny_pure ⟨plainId_quiet PySem.F.plain_extend_loop _, ?_⟩
  exact loop (s := s) hh D O hxs hys hn res (Heap.lt_size hz) (Heap.lt_size hTO') li1 li2 (Heap.lt_size hS) (h₁ := s.heap) hR n 0 _ s.toks _ #[] [] (Nat.sub_zero _) (Nat.zero_le _) (W.keep O oth) (fun b o h _ _ _ _ e => oth b o h e) hS₃ rfl rfl
    ⟨List.Pairwise.nil, (fun _ ha => nomatch ha), (fun j a hj => by simp at hj)⟩ hsz
theorem init {n : Nat} {R : Result → Shared → Prop} (hh : A.handled = none) (D : ZipApart z TI TO i1 i2 l1 l2) (O : Off S z TI TO i1 i2 l1 l2) (hxs : xs.size = n) (hys : ys.size = n) (hn : n ≤ sizeLine)
    (hz : IsZip s.heap z TI TO .none) (hTO : ∃ a b, IsPair s.heap TO a b) (hTI : IsPair s.heap TI (.ref i1) (.ref i2)) (h1 : s.heap.IsListIter i1 l1 0) (h2 : s.heap.IsListIter i2 l2 0) (q1 : s.heap.IsList l1 xs) (q2 : s.heap.IsList l2 ys)
    (hS : s.heap.get? S = some { cls := .type "list", data := .seq #[] })
    (hR : ∀ h' tk acc c as, (∀ b o, b ≠ S → b ≠ z → b ≠ TO → b ≠ i1 → b ≠ i2 → s.heap.get? b = some o → h'.get? b = some o) → LstAt h' S acc c → as.length = n → Got xs ys s.heap.objs.size h' as → acc.toList = as.map Value.ref → R (.ok (.ret .none)) { s with heap := h', toks := tk }) :
    wpAny (model prog w) A.in1 (Builtin.«list.__init__» ⟨[.ref S, .ref z], []⟩)
      (fun fin s' => match fin with | .done f => R (.ok f) s' | .again c' => c'.quiet = true ∧ codeAny (model prog w) A c' R s') (fun e s' => R (.error e) s') s := by
  show wpAny _ _ (do let old ← Builtin.List.listItems (.ref S); Builtin.List.listUpdate (.ref S) (fun _ => #[]); letGo old.toList.reverse; Builtin.List.listExtendWith (.ref S) (.ref z) .none) _ _ s
  refine wpAny_bind ?_
  unfold Builtin.List.listItems
  refine wpAny_bind (wpAny_seqItems hS rfl (wpAny_pure ?_))
  show wpAny _ _ (updateSeq S (fun _ => #[]) >>= fun _ => letGo (#[] : Array Value).toList.reverse >>= fun _ => Builtin.List.listExtendWith (.ref S) (.ref z) .none) _ _ s
  refine wpAny_bind (wpAny_updateSeq hS rfl ?_)
  have hS₂ := Heap.get?_update_self (Obj.mapSeq (fun _ => (#[] : Array Value))) hS rfl
  have oth : ∀ b o, b ≠ S → s.heap.get? b = some o → (s.heap.update S (Obj.mapSeq (fun _ => (#[] : Array Value)))).get? b = some o :=
    fun b o hb e => (Heap.get?_update_other _ _ (Ne.symm hb)).trans e
  refine wpAny_bind (wpAny_letGo ?_)
  obtain ⟨a, b, hTO'⟩ := hTO
  refine extend hh D O hxs hys hn .none _ (oth _ _ O.z hz) ⟨a, b, oth _ _ O.TO hTO'⟩ (oth _ _ O.TI hTI) (h1.at fun o e => oth _ o O.i1 e) (h2.at fun o e => oth _ o O.i2 e) (q1.at fun o e => oth _ o O.l1 e) (q2.at fun o e => oth _ o O.l2 e) hS₂ fun h' tk acc c as hk hS' hl hG hacc => ?_
  refine hR h' tk acc c as (fun b o h1 h2 h3 h4 h5 e => hk b o h1 h2 h3 h4 h5 (oth b o h1 e)) hS' hl ?_ hacc
  have hsz : (s.heap.update S (Obj.mapSeq (fun _ => (#[] : Array Value)))).objs.size = s.heap.objs.size := Heap.size_update ..
  rw [← hsz]
  exact hG
end
end ZL
namespace ZL
open PySem PySem.Spec PyProof.Rows L2
end ZL
namespace DL
open PySem PySem.Spec PyProof.Rows L2 ZL
def mListZip (ma mb : DTE) : DTE := fun Γ Q => ma Γ fun r Γ1 => mb Γ1 fun r2 Γ2 => ∃ ds es, dat r = some (.lst ds) ∧ dat r2 = some (.lst es) ∧ ds.length = es.length ∧ ds.length ≤ 100000 ∧ Q (.fr (.lst (zipD ds es))) Γ2
section
variable {Γ : Env} {Q : QE} {ma mb : DTE}
def lzk (r r2 : Res) (Γ : Env) (Q : QE) : Prop := ∃ ds es, dat r = some (.lst ds) ∧ dat r2 = some (.lst es) ∧ ds.length = es.length ∧ ds.length ≤ 100000 ∧ Q (.fr (.lst (zipD ds es))) Γ
theorem e_ListZip (h : ma Γ fun r Γ1 => mb Γ1 fun r2 Γ2 => lzk r r2 Γ2 Q) : mListZip ma mb Γ Q := h
end
end DL
/-! a display of texts by texts -/
namespace DL
open PySem PySem.Spec PyProof.Rows L2
def kvD (kvs : List (Str × Str)) : List (L2.Key × D) := kvs.map fun p => (.inr p.1, .str p.2)
def kvV (kvs : List (Str × Str)) : List (L2.Key × V) := kvs.map fun p => (.inr p.1, .str p.2)
def mDictS (kvs : List (Str × Str)) : DTE := fun Γ Q => Q (.fr (.dic (kvD kvs))) Γ
inductive TxS (C : Ctx) : List (TE × TE) → List (Str × Str) → Prop
  | nil : TxS C [] []
  | cons {tk tv : TE} {k v : Str} {trs kvs} : SimE C tk (mC (.str k)) → SimE C tv (mC (.str v)) → TxS C trs kvs → TxS C ((tk, tv) :: trs) ((k, v) :: kvs)
theorem TxS.run {C : Ctx} {Γ : Env} {O : List Addr} {σ : L2.St} : ∀ {trs : List (TE × TE)} {kvs : List (Str × Str)} {H : Hp} {Q : List (V × V) → Hp → Prop}, TxS C trs kvs → RelO C Γ O σ H → (∀ H2, RelO C Γ O σ H2 → L2.Same (hide O H) (hide O H2) → Q ((kvV kvs).map fun kv => (kV kv.1, kv.2)) H2) → tPairs trs σ H Q
  | _, _, H, Q, .nil, R, k => k H R (L2.Same.refl _)
  | _, _, H, Q, .cons (k := kk) (v := vv) hk hv r, R, k => by
    refine hk Γ O σ H (fun r Γ' => r = .val (.str kk) ∧ Γ' = Γ) _ R ⟨rfl, rfl⟩ fun r1 Γ1 x H1 R1 e1 q1 => ?_
    obtain ⟨rfl, rfl⟩ := q1
    refine hv Γ1 O σ H1 (fun r Γ' => r = .val (.str vv) ∧ Γ' = Γ1) _ R1.rel ⟨rfl, rfl⟩ fun r2 Γ2 y H2 R2 e2 q2 => ?_
    obtain ⟨rfl, rfl⟩ := q2
    have p1 := (R1.pend.mono e2.1).dat (d := .str kk) rfl
    have p2 := R2.pend.dat (d := .str vv) rfl
    cases p1
    cases p2
    exact TxS.run r R2.rel fun H3 R3 e3 => k H3 R3 (L2.Same.trans e1.1 (L2.Same.trans e2.1 e3))
theorem e_DictS {Γ : Env} {Q : QE} {kvs : List (Str × Str)} (h : Q (.fr (.dic (kvD kvs))) Γ) : mDictS kvs Γ Q := h
end DL
/-! the data layer, part 87: d.get(k, x), d a shared dict of ints or texts, k may be None -/
namespace DL
open PySem PySem.Spec PyProof.Rows L2
/-- lookD; None is no key -/
def lookN : D → D → Option (Option D)
  | .dkl _, .non => some none
  | c, k => lookD c k
def mDGetN (mo mk mx : DTE) : DTE := fun Γ Q => mo Γ fun ro Γ1 => (∃ c, rd Γ1 ro = some c ∧ isDic c = true) ∧ mk Γ1 fun rk Γ2 => mx Γ2 fun rx Γ3 => ∃ c k o dx, rd Γ3 ro = some c ∧ rd Γ3 rk = some k ∧ lookN c k = some o ∧ dat rx = some dx ∧ Q (.val (o.getD dx)) Γ3
section
variable {Γ : Env} {Q : QE} {mo mi mx : DTE}
def gnb (ro rk rx : Res) (Γ : Env) (Q : QE) : Prop := ∃ c k o dx, rd Γ ro = some c ∧ rd Γ rk = some k ∧ lookN c k = some o ∧ dat rx = some dx ∧ Q (.val (o.getD dx)) Γ
def gna (ro : Res) (mi mx : DTE) (Γ : Env) (Q : QE) : Prop := (∃ c, rd Γ ro = some c ∧ isDic c = true) ∧ mi Γ fun rk Γ2 => mx Γ2 fun rx Γ3 => gnb ro rk rx Γ3 Q
theorem e_DGetN (h : mo Γ fun ro Γ1 => gna ro mi mx Γ1 Q) : mDGetN mo mi mx Γ Q := h
theorem e_gna {ro : Res} {c : D} (h1 : rd Γ ro = some c) (h2 : isDic c = true) (h : mi Γ fun rk Γ2 => mx Γ2 fun rx Γ3 => gnb ro rk rx Γ3 Q) : gna ro mi mx Γ Q := ⟨⟨c, h1, h2⟩, h⟩
end
end DL
/-! the data layer, part 88: list(range(i, j, c)) -/
namespace DL
open PySem PySem.Spec PyProof.Rows L2
def mLst3 (ma : DTA) : DTE := fun Γ Q => ma Γ fun rs Γ1 => ∃ (i j c : Int) (n : Nat), rs = [.val (.int i), .val (.int j), .val (.int c)] ∧ RgC i j c n ∧ n ≤ 100000 ∧ Q (.fr (.lst (rngC i c n))) Γ1
def ls3 (rs : List Res) (Γ : Env) (Q : QE) : Prop := ∃ (i j c : Int) (n : Nat), rs = [.val (.int i), .val (.int j), .val (.int c)] ∧ RgC i j c n ∧ n ≤ 100000 ∧ Q (.fr (.lst (rngC i c n))) Γ
theorem e_Lst3 {ma : DTA} {Γ : Env} {Q : QE} (h : ma Γ fun rs Γ1 => ls3 rs Γ1 Q) : mLst3 ma Γ Q := h
end DL
/-! the data layer, part 89: sorted(xs), xs a list of lists of ints -/
namespace DL
open PySem PySem.Spec PyProof.Rows L2
/-! over data -/
end DL
/-! the data layer, part 90: xs.extend(ys) -/
namespace DL
open PySem PySem.Spec PyProof.Rows L2
def extendD : D → List D → (D → Res → Prop) → Prop
  | .lst xs, [.lst ys], Q => xs.length + ys.length ≤ 100000 ∧ Q (.lst (xs ++ ys)) (.val .non)
  | _, _, _ => False
theorem i_extend {xs ys : List D} {Q : D → Res → Prop} (hl : xs.length + ys.length ≤ 100000) (h : Q (.lst (xs ++ ys)) (.val .non)) : extendD (.lst xs) [.lst ys] Q := ⟨hl, h⟩
end DL
/-! the data layer, part 91: dict comprehensions; min(d) of a locked dict with int keys -/
namespace DL
open PySem PySem.Spec PyProof.Rows L2
def dcM (src : Src) (mg : DTG) (mt : DTT) (mk mv : DTE) (vs : List Nat) (Q : List (L2.Key × D) → Env → Prop) : List D → List (L2.Key × D) → Env → Prop
  | [], acc, Γ => srcD Γ src ∧ Q acc Γ
  | x :: xs, acc, Γ => srcD Γ src ∧ okOwn Γ vs = true ∧ mg x (wipeD Γ vs) fun Γ2 => mt Γ2 fun b Γ3 =>
      if b = true then mk Γ3 fun rk Γ4 => ∃ kd k, dat rk = some kd ∧ keyO kd = some k ∧ mv Γ4 fun rv Γ5 => ∃ dv, dat rv = some dv ∧ acc.length < 100000 ∧ dcM src mg mt mk mv vs Q xs (putE acc k dv) (restD Γ Γ5 vs) else dcM src mg mt mk mv vs Q xs acc (restD Γ Γ3 vs)
def mDc (mi : DTI) (mg : DTG) (mt : DTT) (mk mv : DTE) (vs : List Nat) : DTE := fun Γ Q => mi Γ fun src items Γ1 => dcM src mg mt mk mv vs (fun acc Γ2 => Q (.fr (.dic acc)) Γ2) items [] Γ1
section
variable {src : Src} {mi : DTI} {mg : DTG} {mt : DTT} {mk mv : DTE} {vs : List Nat}
theorem e_Dc {Γ : Env} {Q : QE} (h : mi Γ fun src items Γ1 => dcM src mg mt mk mv vs (fun acc Γ2 => Q (.fr (.dic acc)) Γ2) items [] Γ1) : mDc mi mg mt mk mv vs Γ Q := h
end
end DL
namespace DL
open PySem PySem.Spec PyProof.Rows L2
end DL
namespace DL
open PySem PySem.Spec PyProof.Rows L2
end DL
/-! the data layer, part 92: a, b = a or e, b or f, where the names hold an own list or None -/
namespace DL
open PySem PySem.Spec PyProof.Rows L2
/-- the name's own list goes on as a value on its way; where it is None, e -/
def mPConsM (i : Nat) (mb : DTE) (mr : DTP) : DTP := fun Γ Q => (∃ (x : D) (xs : List D), Γ[i]? = some (.ow (.lst (x :: xs))) ∧ mr (Γ.set i .no) fun rs Γ2 => Q (.fr (.lst (x :: xs)) :: rs) Γ2) ∨ (Γ[i]? = some (.sh .non) ∧ mPCons mb mr Γ Q)
section
variable {X : Cx} {C : Ctx} {b : Expr} {es : List Expr} {tb : TE} {mb ma : DTE} {tr : TA} {mr : DTP} {x : Str} {p pos : Pos} {Γ Γ1 : Env} {i : Nat}
theorem p_MN {Q : List Res → Env → Prop} (h1 : Γ[i]? = some (.sh .non)) (h : mPCons mb mr Γ Q) : mPConsM i mb mr Γ Q := .inr ⟨h1, h⟩
end
/-- a, b = .., where a name may get a plain value or a fresh list -/
def mParE (mp : DTP) (ts1 ts2 : List Tg) : DTS := fun De Γ => mp Γ fun rs Γ1 => mTgs ts1 rs Γ1 De.nx ∨ mTgs ts2 rs Γ1 De.nx
section
variable {X : Cx} {C : Ctx} {st : Stmt} {es : List Expr} {ta : TA} {mp : DTP} {t1 t2 u1 u2 : Tg} {i j : Nat} {Γ : Env} {nx bk ct : Env → Prop} {rt : Res → Env → Prop}
theorem s_ParE {ts1 ts2 : List Tg} (h : mp Γ fun rs Γ1 => mTgs ts1 rs Γ1 nx ∨ mTgs ts2 rs Γ1 nx) : mParE mp ts1 ts2 (.mk nx rt bk ct) Γ := h
end
end DL
/-! the data layer, part 93: the store -/
namespace DL
open PySem PySem.Spec PyProof.Rows L2
/-! ### stores -/
def putA (a : Addr) (d : D) (S : Stor) : Stor := (a, d) :: S
def delA (a : Addr) (S : Stor) : Stor := S.filter fun p => decide (p.1 ≠ a)
theorem putA_same {a : Addr} {d : D} {S : Stor} : (putA a d S).lookup a = some d := by
  unfold putA
  rw [List.lookup_cons, beq_self_eq_true]
theorem putA_ne {a b : Addr} {d : D} {S : Stor} (h : b ≠ a) : (putA a d S).lookup b = S.lookup b := by
  unfold putA
  have e : (b == a) = false := by simpa using h
  rw [List.lookup_cons, e]
theorem delA_ne {a b : Addr} (h : b ≠ a) : ∀ {S : Stor}, (delA a S).lookup b = S.lookup b
  | [] => rfl
  | (c, d) :: S => by
    have ih := delA_ne h (S := S)
    unfold delA at ih ⊢
    rw [List.filter_cons]
    by_cases hc : c = a
    · rw [decide_eq_false (show ¬ c ≠ a from fun z => z hc)]
      have e : (b == c) = false := by rw [hc]; simpa using h
      rw [List.lookup_cons, e]
      exact ih
    · rw [decide_eq_true (show c ≠ a from hc), if_pos rfl, List.lookup_cons, List.lookup_cons]
      split
      · rfl
      · exact ih
section
variable {C : Ctx} {Γ : Env} {O O1 : List Addr} {σ : L2.St} {H H' : Hp} {S S' : Stor} {K : Fg} {a b l : Addr} {d c c' : D} {o o' : HO}
theorem CellOk.pv (h : CellOk K O H a d) : Pv H a := by
  rcases h with ⟨o, _, _, h⟩ | ⟨C, dx, fs, ex, ns, ds, _, h2, _, _, _, h6, h7⟩
  · exact h
  · exact .inl ⟨_, h2, rootEx h6 h7.2⟩
end
/-! ### attributes of the objects of the store -/
/-- e.f, a plain value -/
def mFldH (C0 : Addr) (f : Str) (mo : DTE) : DTE := fun Γ Q => mo Γ fun r Γ1 => ∃ a S ns ds d, r = .val (.cls a) ∧ stOf Γ1 = some S ∧ S.lookup a = some (.obj C0 ns ds) ∧ fldD ns ds f = some d ∧ Q (.val d) Γ1
/-- e.f, a cell that is the object's alone -/
def mFldP (C0 : Addr) (f : Str) (mo : DTE) : DTE := fun Γ Q => mo Γ fun r Γ1 => ∃ a S ns ds l, r = .val (.cls a) ∧ stOf Γ1 = some S ∧ S.lookup a = some (.obj C0 ns ds) ∧ fldD ns ds f = some (.cls l) ∧ Q (.hd l) Γ1
/-- o.m(..) that changes the cell -/
def mMutH (f : D → List D → (D → Res → Prop) → Prop) (mo : DTE) (ma : DTA) : DTE := fun Γ Q => mo Γ fun ro Γ1 => ∃ l, ro = .hd l ∧ (∃ ds, stGet Γ1 l = some (.lst ds)) ∧ ma Γ1 fun rs Γ2 => ∃ c ds S, stGet Γ2 l = some c ∧ dats rs = some ds ∧ stOf Γ2 = some S ∧ f c ds fun c' z => (∃ xs, c' = .lst xs) ∧ Q z (putSt (putA l c' S) Γ2)
/-! ### an attribute of an object of the store is set anew -/
def mSetFP (C0 : Addr) (f : Str) (mo me : DTE) : DTS := fun De Γ => me Γ fun r Γ1 => ∃ d0, r = .fr d0 ∧ mo Γ1 fun ro Γ2 => ∃ a S ns ds l0, ro = .val (.cls a) ∧ ((∃ xs, d0 = .lst xs) ∨ ∃ kvs, d0 = .dit kvs) ∧ stOf Γ2 = some S ∧ S.lookup a = some (.obj C0 ns ds) ∧ fldD ns ds f = some (.cls l0) ∧ ns.length < 400 ∧
  ∀ p, p ≠ a → S.lookup p = none → De.nx (putSt (putA a (.obj C0 ns (putDs f (.cls p) ns ds)) (putA p d0 (delA l0 S))) Γ2)
end DL
/-! the data layer, part 94: methods of the objects of the store, and how these objects are made -/
namespace DL
open PySem PySem.Spec PyProof.Rows L2
/-! ### methods -/
/-- the object of a handle, and its class -/
def mHnd (C0 : Addr) (m : Str) (mo : DTE) (mt : DTA) : DTA := fun Γ Q => mo Γ fun r Γ1 => (∃ a S ns ds, r = .val (.cls a) ∧ stOf Γ1 = some S ∧ S.lookup a = some (.obj C0 ns ds) ∧ m ∉ ns) ∧ mt Γ1 fun rs Γ2 => Q (r :: rs) Γ2
/-! ### making -/
/-- C(..): the arguments with a new handle ahead -/
def mMakeH (Wd : Dwx) (ms : List Md) (sd : DSp) (ma : DTA) : DTE := fun Γ Q => ma Γ fun rs Γ1 => ∀ x, (∀ S, stOf Γ1 = some S → S.lookup x = none) → clkX Wd ms sd Γ1 (.val (.cls x) :: rs) fun r Γ' => r = .val .non ∧ Q (.val (.cls x)) Γ'
def tMakeW (C : Addr) (sp : Sp) (W : WX) (t : TA) : TE := fun σ H Q => t σ H fun vs H1 => ∀ x dx, H1 x = none → H1 dx = none → dx ≠ x →
  sp (.ref x :: vs) (upd (upd H1 dx (.own x)) x (.ins C dx [])) (fun v H2 => v = .non ∧ Q (.ref x) H2) (WE W σ)
section
variable {X : Cx} {k : Nat} {f C : Addr} {fd : FuncData} {ps : List Str} {sp : Sp} {x : Str} {pos p1 : Pos} {e : Expr} {es : List Expr} {t : TA} {W : WX}
theorem pe_makeW (M : Mk X.K C f) (F : FnG X.prog X.w X.K X.mg X.base k f fd ps sp) (hgu : X.A.guards = some []) (hr : Room (k + 1) X.A) (hg : Gl X x) (hm : X.mg x = some (.ref C)) (hb : Binds X.K fd ps []) (tk : Takes X W)
    (ha : PA X (e :: es) t) (hdb : (x == ("__debug__" : Str)) = false := by decide) (he : starEach (e :: es) X.env = (false, eval e X.env) :: starEach es X.env := by rfl) (hpl : (backTo pos (starEach es X.env)).any (·.1) = false := by rfl) :
    PE X (.Call (.Name x p1) (e :: es) [] pos) (tMakeW C sp W t) := by
  refine ⟨fun pins s σ H Q I h => ?_⟩
  refine wpAny_Call_Name_kw (ld_glob I hg hm ?_ hdb)
  refine PySem.W.callWith_K (h₀ := X.base) I.ok.mod.kin M.kp (thn (ha.run pos pins s σ H _ I h) fun us s1 ⟨vs, H1, I1, r, q⟩ => ⟨I1.kIn, ?_⟩) he hpl
  have hq := q (s1.heap.objs.size + 1) s1.heap.objs.size (I1.hok.fresh (Nat.le_succ _)) (I1.hok.fresh (Nat.le_refl _)) (Nat.ne_of_lt (Nat.lt_succ_self _))
  have I2 := Inv.made (C := C) I1
  have r2 : Vals (V.ref (s1.heap.objs.size + 1) :: vs) (Value.ref (s1.heap.objs.size + 1) :: us) := .cons rfl r
  have hl : (Value.ref (s1.heap.objs.size + 1) :: us).length = ps.length := by
    have e := r2.length
    rw [F.len _ _ _ _ hq] at e
    exact e.symm
  have b := hb _ (Value.ref (s1.heap.objs.size + 1) :: us) I2.kIn (by rw [List.append_nil]; exact hl)
  rw [List.append_nil] at b
  refine wpAny_call (make_map (f := f) I1.kIn M.makes M.init (beq_iff_eq.mp M.fn) (codeAny_mono (F.go _ (under_guards.trans hgu) (hr.make C us []) X.stack _ _ ⟨Value.ref (s1.heap.objs.size + 1) :: us, []⟩ (Value.ref (s1.heap.objs.size + 1) :: us) _ _ (WE W σ)
    (I2.env0.make C us []) b r2 hq) fun r s' hq' => ?_))
  cases r with
  | error e => exact passAt tk σ pins _ _ e s' I2 hq'
  | ok fl =>
    cases fl with
    | ret u =>
      obtain ⟨v, H', I3, rv, ev, q3⟩ := I2.after hq'
      subst ev
      exact ⟨rv, ⟨V.ref (s1.heap.objs.size + 1), H', I3, rfl, q3⟩⟩
    | next => exact False.elim hq'
    | brk => exact False.elim hq'
    | cont => exact False.elim hq'
end
end DL
/-! the data layer, part 95: the making of the objects of the store -/
namespace DL
open PySem PySem.Spec PyProof.Rows L2
/-- new cells and what stands for them -/
inductive CsOk (K : Fg) (O : List Addr) (H : Hp) : List (Addr × HO) → List (Addr × D) → Prop
  | nil : CsOk K O H [] []
  | cons {l : Addr} {o : HO} {d : D} {us : List (Addr × HO)} {cs : List (Addr × D)} : OwnOk K (hide O H) o d → CK o → CsOk K O H us cs → CsOk K O H ((l, o) :: us) ((l, d) :: cs)
theorem CsOk.mono {K : Fg} {O O' : List Addr} {H H' : Hp} (e : Same (hide O H) (hide O' H')) : ∀ {us : List (Addr × HO)} {cs : List (Addr × D)}, CsOk K O H us cs → CsOk K O' H' us cs
  | _, _, .nil => .nil
  | _, _, .cons h k t => .cons (h.mono e) k (t.mono e)
theorem CsOk.keys {K : Fg} {O : List Addr} {H : Hp} : ∀ {us : List (Addr × HO)} {cs : List (Addr × D)}, CsOk K O H us cs → us.map (·.1) = cs.map (·.1)
  | _, _, .nil => rfl
  | _, _, .cons _ _ t => by rw [List.map_cons, List.map_cons, t.keys]
theorem CsOk.app {K : Fg} {O : List Addr} {H : Hp} {l : Addr} {o : HO} {d : D} (h : OwnOk K (hide O H) o d) (k : CK o) : ∀ {us : List (Addr × HO)} {cs : List (Addr × D)}, CsOk K O H us cs → CsOk K O H (us ++ [(l, o)]) (cs ++ [(l, d)])
  | _, _, .nil => .cons h k .nil
  | _, _, .cons h' k' t => .cons h' k' (t.app h k)
theorem CsOk.at {K : Fg} {O : List Addr} {H : Hp} {a : Addr} {d : D} : ∀ {us : List (Addr × HO)} {cs : List (Addr × D)}, CsOk K O H us cs → cs.lookup a = some d → ∃ o, (a, o) ∈ us ∧ OwnOk K (hide O H) o d
  | _, _, .nil, h => by cases h
  | _, _, .cons (l := l) (o := o) h k t, e => by
    rw [List.lookup_cons] at e
    split at e
    · rename_i q
      cases e
      rw [eq_of_beq q]
      exact ⟨o, List.mem_cons_self, h⟩
    · obtain ⟨o', h1, h2⟩ := t.at e
      exact ⟨o', List.mem_cons_of_mem _ h1, h2⟩
section
variable {C : Ctx} {Γ : Env} {O O2 : List Addr} {σ : L2.St} {H : Hp} {x dx C0 : Addr} {fs ex : List (Str × V)} {us : List (Addr × HO)} {cs : List (Addr × D)} {ds : List D} {S : Stor}
/-- an object on its way -/
structure IniSt (C : Ctx) (C0 : Addr) (Γ : Env) (O O2 : List Addr) (σ : L2.St) (H : Hp) (x dx : Addr) (fs ex : List (Str × V)) (us : List (Addr × HO)) (cs : List (Addr × D)) (ds : List D) : Prop where
  rel : RelO { C with U := (x, .ins C0 dx fs) :: us ++ C.U } Γ O2 σ H
  sub : ∀ a ∈ O, a ∈ O2
  cov : ∀ a ∈ O2, a ∈ O ∨ a = x ∨ a ∈ us.map (·.1)
  uO : ∀ q ∈ C.U, q.1 ∈ O
  oO : ∀ a ∈ C.O0, a ∈ O
  x0 : C.H0 x = none
  u0 : ∀ q ∈ us, C.H0 q.1 = none
  xO : x ∉ O
  usO : ∀ q ∈ us, q.1 ∉ O
  nd : (fs.map (·.1)).Nodup
  rr : Reps C.K (hide O2 H) (fs.map (·.2)) ds
  cc : CsOk C.K O2 H us cs
  xu : x ∉ us.map (·.1)
  exn : (ex.map (·.1)).Nodup
  exf : ∀ p ∈ ex, p ∈ fs
  exu : ∀ l, l ∈ us.map (·.1) ↔ ∃ f, (f, V.ref l) ∈ ex
theorem putF_new {f : Str} {y : V} : ∀ {fs : List (Str × V)}, f ∉ fs.map (·.1) → putF f y fs = fs ++ [(f, y)]
  | [], _ => rfl
  | (g, v) :: fs, h => by
    rw [List.map_cons, List.mem_cons, not_or] at h
    rw [putF, if_neg (Ne.symm h.1), putF_new h.2]; rfl
theorem dupN_of {ns : List Str} (h : ns.Nodup) : dupN ns = false := by
  unfold dupN
  rw [decide_eq_true h]; rfl
/-- the object gets an attribute -/
theorem IniSt.put {Γ1 : Env} {O1 : List Addr} {H1 : Hp} {f : Str} {y : V} {d : D} {ex1 : List (Str × V)} {us1 : List (Addr × HO)} {cs1 : List (Addr × D)} (I : IniSt C C0 Γ O O2 σ H x dx fs ex us cs ds) (hf : f ∉ fs.map (·.1)) (R1 : RelO { C with U := (x, .ins C0 dx fs) :: us1 ++ C.U } Γ1 O1 σ H1) (e1 : Same (hide O2 H) (hide O1 H1)) (sb : ∀ a ∈ O2, a ∈ O1)
    (cov : ∀ a ∈ O1, a ∈ O ∨ a = x ∨ a ∈ us1.map (·.1)) (ry : Rep C.K (hide O1 H1) y d) (u0 : ∀ q ∈ us1, C.H0 q.1 = none) (uO : ∀ q ∈ us1, q.1 ∉ O) (cc : CsOk C.K O1 H1 us1 cs1) (xu : x ∉ us1.map (·.1)) (exn : (ex1.map (·.1)).Nodup) (exf : ∀ p ∈ ex1, p ∈ fs ++ [(f, y)]) (exu : ∀ l, l ∈ us1.map (·.1) ↔ ∃ f, (f, V.ref l) ∈ ex1) :
    H1 x = some (.ins C0 dx fs) ∧ IniSt C C0 Γ1 O O1 σ (upd H1 x (.ins C0 dx (putF f y fs))) x dx (fs ++ [(f, y)]) ex1 us1 cs1 (ds ++ [d]) := by
  obtain ⟨hHx, hxO1, hmx⟩ := R1.uu _ (List.mem_append_left _ List.mem_cons_self)
  have ep := putF_new (y := y) hf
  have nd1 : ((fs ++ [(f, y)]).map (·.1)).Nodup := by
    rw [List.map_append, List.nodup_append]
    refine ⟨I.nd, by simp, fun a ha b hb => ?_⟩
    rw [List.map_singleton, List.mem_singleton] at hb
    have hb : b = f := hb
    exact fun z => hf (by rw [← hb, ← z]; exact ha)
  have tk : Tk (some (.ins C0 dx (putF f y fs))) := by rw [ep]; exact dupN_of nd1
  have Rb : RelO { C with U := us1 ++ C.U } Γ1 O1 σ H1 := R1.subU (C := C) fun q hq => List.mem_cons_of_mem _ hq
  have hxq : ∀ q ∈ us1 ++ C.U, q.1 ≠ x := fun q hq z => by
    rcases List.mem_append.mp hq with w | w
    · exact xu (List.mem_map.mpr ⟨q, w, z⟩)
    · exact I.xO (z ▸ I.uO q w)
  have Ru := Rb.updFree (p := x) (o := .ins C0 dx (putF f y fs)) hxO1 I.x0 hmx hxq tk
  have R2 : RelO { C with U := (x, .ins C0 dx (putF f y fs)) :: us1 ++ C.U } Γ1 O1 σ (upd H1 x (.ins C0 dx (putF f y fs))) := Ru.congrU fun q hq => by
    rcases List.mem_cons.mp (show q ∈ (x, HO.ins C0 dx (putF f y fs)) :: (us1 ++ C.U) from hq) with z | z
    · subst z; exact ⟨upd_same, hxO1, hmx⟩
    · exact Ru.uu q z
  have eH : hide O1 (upd H1 x (.ins C0 dx (putF f y fs))) = hide O1 H1 := hide_mut hxO1 (R1.nr hxO1) tk.nr
  refine ⟨hHx, ?_, fun a ha => sb a (I.sub a ha), cov, I.uO, I.oO, I.x0, u0, I.xO, uO, nd1, ?_, cc.mono (by rw [eH]; exact L2.Same.refl _), xu, exn, exf, exu⟩
  · rw [ep] at R2 ⊢; exact R2
  · rw [eH, List.map_append]
    exact (I.rr.mono e1).append (.cons ry .nil)
end
def okP (d : D) : Prop := (∃ xs, d = .lst xs) ∨ ∃ kvs, d = .dit kvs
/-- self.f = e, one after another; the marked ones become cells of the object alone -/
def mIni (x C0 : Addr) (nx : Env → Prop) : List (Str × Bool × DTE) → List Str → List D → List (Addr × D) → Env → Prop
  | [], ns, ds, cs, Γ => ∃ S, stOf Γ = some S ∧ nx (putSt ((x, .obj C0 ns ds) :: (cs ++ S)) Γ)
  | (f, false, me) :: r, ns, ds, cs, Γ => me Γ fun v Γ1 => ∃ d, dat v = some d ∧ mIni x C0 nx r (ns ++ [f]) (ds ++ [d]) cs Γ1
  | (f, true, me) :: r, ns, ds, cs, Γ => me Γ fun v Γ1 => ∃ d, v = .fr d ∧ okP d ∧ ∀ l, l ≠ x → l ∉ cs.map (·.1) → (∀ S, stOf Γ1 = some S → S.lookup l = none) → mIni x C0 nx r (ns ++ [f]) (ds ++ [.cls l]) (cs ++ [(l, d)]) Γ1
/-! ### an __init__ of an object of the store, walked -/
end DL
/-! the data layer, part 96: the store's constructs as rules; the evaluator's lemmas for them -/
namespace DL
open PySem PySem.Spec PyProof.Rows L2
/-! ### the evaluator -/
section
variable {Γ Γ1 Γ' : Env} {Q : QE} {C0 a l p : Addr} {f m : Str} {mo me : DTE} {mt : DTA} {S : Stor} {ns : List Str} {ds : List D} {d c d0 : D} {nx : Env → Prop} {rt : Res → Env → Prop} {bk ct : Env → Prop} {rs : List Res} {r : Res} {ms : List Md} {sd : DSp} {Wd : Dwx}
theorem stGet_of : ∀ {Γ : Env}, stOf Γ = some S → S.lookup l = some (.lst ds) → stGet Γ l = some (.lst ds)
  | [], h, _ => by cases h
  | .st T :: Γ, h, e => by cases h; unfold stGet; rw [e]
  | .no :: Γ, h, e => stGet_of (Γ := Γ) h e
  | .sh _ :: Γ, h, e => stGet_of (Γ := Γ) h e
  | .ow _ :: Γ, h, e => stGet_of (Γ := Γ) h e
  | .io _ :: Γ, h, e => stGet_of (Γ := Γ) h e
  | .bo _ :: Γ, h, e => stGet_of (Γ := Γ) h e
  | .pn _ _ :: Γ, h, e => stGet_of (Γ := Γ) h e
theorem rd_hd (h : stOf Γ = some S) (e : S.lookup l = some (.lst ds)) : rd Γ (.hd l) = some (.lst ds) := stGet_of h e
def fhk (C0 : Addr) (f : Str) (r : Res) (Γ1 : Env) (Q : QE) : Prop := ∃ a S ns ds d, r = .val (.cls a) ∧ stOf Γ1 = some S ∧ S.lookup a = some (.obj C0 ns ds) ∧ fldD ns ds f = some d ∧ Q (.val d) Γ1
theorem e_FldH (h : mo Γ fun r Γ1 => fhk C0 f r Γ1 Q) : mFldH C0 f mo Γ Q := h
theorem e_fldH (h1 : stOf Γ = some S) (h2 : S.lookup a = some (.obj C0 ns ds)) (h3 : fldD ns ds f = some d) (h : Q (.val d) Γ) : fhk C0 f (.val (.cls a)) Γ Q := ⟨_, _, _, _, _, rfl, h1, h2, h3, h⟩
def fpk (C0 : Addr) (f : Str) (r : Res) (Γ1 : Env) (Q : QE) : Prop := ∃ a S ns ds l, r = .val (.cls a) ∧ stOf Γ1 = some S ∧ S.lookup a = some (.obj C0 ns ds) ∧ fldD ns ds f = some (.cls l) ∧ Q (.hd l) Γ1
theorem e_FldP (h : mo Γ fun r Γ1 => fpk C0 f r Γ1 Q) : mFldP C0 f mo Γ Q := h
theorem e_fldP (h1 : stOf Γ = some S) (h2 : S.lookup a = some (.obj C0 ns ds)) (h3 : fldD ns ds f = some (.cls l)) (h : Q (.hd l) Γ) : fpk C0 f (.val (.cls a)) Γ Q := ⟨_, _, _, _, _, rfl, h1, h2, h3, h⟩
def mhk (g : D → List D → (D → Res → Prop) → Prop) (ma : DTA) (Q : QE) (ro : Res) (Γ1 : Env) : Prop := ∃ l, ro = .hd l ∧ (∃ ds, stGet Γ1 l = some (.lst ds)) ∧ ma Γ1 fun rs Γ2 => ∃ c ds S, stGet Γ2 l = some c ∧ dats rs = some ds ∧ stOf Γ2 = some S ∧ g c ds fun c' z => (∃ xs, c' = .lst xs) ∧ Q z (putSt (putA l c' S) Γ2)
def mhj (g : D → List D → (D → Res → Prop) → Prop) (Q : QE) (l : Addr) (rs : List Res) (Γ2 : Env) : Prop := ∃ c ds S, stGet Γ2 l = some c ∧ dats rs = some ds ∧ stOf Γ2 = some S ∧ g c ds fun c' z => (∃ xs, c' = .lst xs) ∧ Q z (putSt (putA l c' S) Γ2)
theorem e_MutH {g : D → List D → (D → Res → Prop) → Prop} (h : mo Γ fun r Γ1 => mhk g mt Q r Γ1) : mMutH g mo mt Γ Q := h
theorem e_muH {g : D → List D → (D → Res → Prop) → Prop} (h1 : stOf Γ = some S) (h2 : S.lookup l = some (.lst ds)) (h : mt Γ fun rs Γ2 => mhj g Q l rs Γ2) : mhk g mt Q (.hd l) Γ := ⟨l, rfl, ⟨ds, stGet_of h1 h2⟩, h⟩
theorem e_apH {xs : List D} {y : D} (h1 : stOf Γ = some S) (h2 : S.lookup l = some (.lst xs)) (h3 : dats rs = some [y]) (h4 : xs.length < 100000) (h5 : putSt (putA l (.lst (xs ++ [y])) S) Γ = Γ') (h : Q (.val .non) Γ') : mhj appendD Q l rs Γ := ⟨_, _, S, stGet_of h1 h2, h3, h1, ⟨h4, ⟨_, rfl⟩, by rw [h5]; exact h⟩⟩
theorem e_poH {xs : List D} {y : D} (h1 : stOf Γ = some S) (h2 : S.lookup l = some (.lst xs)) (h3 : xs[xs.length - 1]? = some y) (h5 : putSt (putA l (.lst xs.dropLast) S) Γ = Γ') (h : Q (.val y) Γ') : mhj popD Q l [] Γ := ⟨_, _, S, stGet_of h1 h2, rfl, h1, ⟨y, h3, ⟨_, rfl⟩, by rw [h5]; exact h⟩⟩
def hnk (C0 : Addr) (m : Str) (mt : DTA) (r : Res) (Γ1 : Env) (Q : List Res → Env → Prop) : Prop := (∃ a S ns ds, r = .val (.cls a) ∧ stOf Γ1 = some S ∧ S.lookup a = some (.obj C0 ns ds) ∧ m ∉ ns) ∧ mt Γ1 fun rs Γ2 => Q (r :: rs) Γ2
theorem e_Hnd {Q : List Res → Env → Prop} (h : mo Γ fun r Γ1 => hnk C0 m mt r Γ1 Q) : mHnd C0 m mo mt Γ Q := h
theorem e_hnd {Q : List Res → Env → Prop} (h1 : stOf Γ = some S) (h2 : S.lookup a = some (.obj C0 ns ds)) (h3 : m ∉ ns) (h : mt Γ fun rs Γ2 => Q (.val (.cls a) :: rs) Γ2) : hnk C0 m mt (.val (.cls a)) Γ Q := ⟨⟨_, _, _, _, rfl, h1, h2, h3⟩, h⟩
def mkkH (Wd : Dwx) (ms : List Md) (sd : DSp) (Γ1 : Env) (rs : List Res) (Q : QE) : Prop := ∀ x, (∀ S, stOf Γ1 = some S → S.lookup x = none) → clkX Wd ms sd Γ1 (.val (.cls x) :: rs) fun r Γ' => r = .val .non ∧ Q (.val (.cls x)) Γ'
theorem e_MakeH (h : mt Γ fun rs Γ1 => mkkH Wd ms sd Γ1 rs Q) : mMakeH Wd ms sd mt Γ Q := h
theorem e_makeH (h1 : stOf Γ = some S) (h : ∀ x, S.lookup x = none → clkX Wd ms sd Γ (.val (.cls x) :: rs) fun r Γ' => r = .val .non ∧ Q (.val (.cls x)) Γ') : mkkH Wd ms sd Γ rs Q := fun x hx => h x (hx S h1)
def spk (C0 : Addr) (f : Str) (mo : DTE) (nx : Env → Prop) (r : Res) (Γ1 : Env) : Prop := ∃ d0, r = .fr d0 ∧ mo Γ1 fun ro Γ2 => ∃ a S ns ds l0, ro = .val (.cls a) ∧ ((∃ xs, d0 = .lst xs) ∨ ∃ kvs, d0 = .dit kvs) ∧ stOf Γ2 = some S ∧ S.lookup a = some (.obj C0 ns ds) ∧ fldD ns ds f = some (.cls l0) ∧ ns.length < 400 ∧
  ∀ p, p ≠ a → S.lookup p = none → nx (putSt (putA a (.obj C0 ns (putDs f (.cls p) ns ds)) (putA p d0 (delA l0 S))) Γ2)
def spj (C0 : Addr) (f : Str) (nx : Env → Prop) (d0 : D) (ro : Res) (Γ2 : Env) : Prop := ∃ a S ns ds l0, ro = .val (.cls a) ∧ ((∃ xs, d0 = .lst xs) ∨ ∃ kvs, d0 = .dit kvs) ∧ stOf Γ2 = some S ∧ S.lookup a = some (.obj C0 ns ds) ∧ fldD ns ds f = some (.cls l0) ∧ ns.length < 400 ∧
  ∀ p, p ≠ a → S.lookup p = none → nx (putSt (putA a (.obj C0 ns (putDs f (.cls p) ns ds)) (putA p d0 (delA l0 S))) Γ2)
theorem s_SetFP (h : me Γ fun r Γ1 => spk C0 f mo nx r Γ1) : mSetFP C0 f mo me (.mk nx rt bk ct) Γ := h
theorem s_setFP (h : mo Γ fun ro Γ2 => spj C0 f nx d0 ro Γ2) : spk C0 f mo nx (.fr d0) Γ := ⟨d0, rfl, h⟩
end
end DL
/-! the data layer, part 97: an __init__ of an object of the store that goes on behind its attributes; the evaluator -/
namespace DL
open PySem PySem.Spec PyProof.Rows L2
/-! ### the evaluator -/
section
variable {Γ Γ1 : Env} {x C0 : Addr} {nx : Env → Prop} {f : Str} {me : DTE} {r : List (Str × Bool × DTE)} {ns ns' : List Str} {ds ds' : List D} {cs cs' : List (Addr × D)} {v : Res} {d : D} {S : Stor}
def inf (x C0 : Addr) (nx : Env → Prop) (f : Str) (r : List (Str × Bool × DTE)) (ns : List Str) (ds : List D) (cs : List (Addr × D)) (v : Res) (Γ1 : Env) : Prop := ∃ d, dat v = some d ∧ mIni x C0 nx r (ns ++ [f]) (ds ++ [d]) cs Γ1
def inp (x C0 : Addr) (nx : Env → Prop) (f : Str) (r : List (Str × Bool × DTE)) (ns : List Str) (ds : List D) (cs : List (Addr × D)) (v : Res) (Γ1 : Env) : Prop := ∃ d, v = .fr d ∧ okP d ∧ ∀ l, l ≠ x → l ∉ cs.map (·.1) → (∀ S, stOf Γ1 = some S → S.lookup l = none) → mIni x C0 nx r (ns ++ [f]) (ds ++ [.cls l]) (cs ++ [(l, d)]) Γ1
theorem n_F (h : me Γ fun v Γ1 => inf x C0 nx f r ns ds cs v Γ1) : mIni x C0 nx ((f, false, me) :: r) ns ds cs Γ := h
theorem n_P (h : me Γ fun v Γ1 => inp x C0 nx f r ns ds cs v Γ1) : mIni x C0 nx ((f, true, me) :: r) ns ds cs Γ := h
theorem n_f (h1 : dat v = some d) (h2 : ns ++ [f] = ns') (h3 : ds ++ [d] = ds') (h : mIni x C0 nx r ns' ds' cs Γ) : inf x C0 nx f r ns ds cs v Γ := ⟨d, h1, by rw [h2, h3]; exact h⟩
theorem n_p {xs : List D} (h1 : stOf Γ = some S) (h : ∀ l, l ≠ x → l ∉ cs.map (·.1) → S.lookup l = none → mIni x C0 nx r (ns ++ [f]) (ds ++ [.cls l]) (cs ++ [(l, .lst xs)]) Γ) : inp x C0 nx f r ns ds cs (.fr (.lst xs)) Γ := ⟨_, rfl, .inl ⟨_, rfl⟩, fun l h2 h3 h4 => h l h2 h3 (h4 S h1)⟩
theorem n_pd {xs : List (List L2.Key × D)} (h1 : stOf Γ = some S) (h : ∀ l, l ≠ x → l ∉ cs.map (·.1) → S.lookup l = none → mIni x C0 nx r (ns ++ [f]) (ds ++ [.cls l]) (cs ++ [(l, .dit xs)]) Γ) : inp x C0 nx f r ns ds cs (.fr (.dit xs)) Γ := ⟨_, rfl, .inr ⟨_, rfl⟩, fun l h2 h3 h4 => h l h2 h3 (h4 S h1)⟩
theorem n_E (h1 : stOf Γ = some S) (h2 : putSt ((x, .obj C0 ns ds) :: (cs ++ S)) Γ = Γ1) (h : nx Γ1) : mIni x C0 nx [] ns ds cs Γ := ⟨S, h1, by rw [h2]; exact h⟩
end
end DL
/-! the data layer, part 98: a.f, a.g, .. = x, y, ..: cells of an object of the store set anew at once; an own list that goes there -/
namespace DL
open PySem PySem.Spec PyProof.Rows L2
/-- the targets; each value is a new list or dict -/
def mTgF : List (Addr × Str × DTE) → List Res → Env → (Env → Prop) → Prop
  | [], [], Γ, Q => Q Γ
  | (C0, f, mo) :: ts, r :: rs, Γ, Q => ∃ d0, r = .fr d0 ∧ mo Γ fun ro Γ2 => ∃ a S ns ds l0, ro = .val (.cls a) ∧ ((∃ xs, d0 = .lst xs) ∨ ∃ kvs, d0 = .dit kvs) ∧ stOf Γ2 = some S ∧ S.lookup a = some (.obj C0 ns ds) ∧ fldD ns ds f = some (.cls l0) ∧ ns.length < 400 ∧
    ∀ p, p ≠ a → S.lookup p = none → mTgF ts rs (putSt (putA a (.obj C0 ns (putDs f (.cls p) ns ds)) (putA p d0 (delA l0 S))) Γ2) Q
  | _, _, _, _ => False
section
variable {C : Ctx}
def mParF (n : Nat) (mp : DTP) (ts : List (Addr × Str × DTE)) : DTS := fun D Γ => mp Γ fun rs Γ1 => rs.length = n ∧ mTgF ts rs Γ1 D.nx
/-- an own list among the values -/
def mPConsO (i : Nat) (mr : DTP) : DTP := fun Γ Q => ∃ xs : List D, Γ[i]? = some (.ow (.lst xs)) ∧ mr (Γ.set i .no) fun rs Γ2 => Q (.fr (.lst xs) :: rs) Γ2
end
/-! ### the evaluator -/
section
variable {Γ Γ1 Γ2 : Env} {C0 a l : Addr} {f : Str} {mo : DTE} {mp mr : DTP} {ts : List (Addr × Str × DTE)} {rs : List Res} {Q : Env → Prop} {S : Stor} {ns : List Str} {ds : List D} {n i : Nat} {nx : Env → Prop} {rt : Res → Env → Prop} {bk ct : Env → Prop}
theorem s_ParF (h : mp Γ fun rs Γ1 => rs.length = n ∧ mTgF ts rs Γ1 nx) : mParF n mp ts (.mk nx rt bk ct) Γ := h
theorem p_CO {xs : List D} {Q : List Res → Env → Prop} (h1 : Γ[i]? = some (.ow (.lst xs))) (h2 : Γ.set i .no = Γ1) (h : mr Γ1 fun rs Γ2 => Q (.fr (.lst xs) :: rs) Γ2) : mPConsO i mr Γ Q := ⟨xs, h1, by rw [h2]; exact h⟩
def tfk (C0 : Addr) (f : Str) (ts : List (Addr × Str × DTE)) (rs : List Res) (d0 : D) (Q : Env → Prop) (ro : Res) (Γ2 : Env) : Prop := ∃ a S ns ds l0, ro = .val (.cls a) ∧ ((∃ xs, d0 = .lst xs) ∨ ∃ kvs, d0 = .dit kvs) ∧ stOf Γ2 = some S ∧ S.lookup a = some (.obj C0 ns ds) ∧ fldD ns ds f = some (.cls l0) ∧ ns.length < 400 ∧
    ∀ p, p ≠ a → S.lookup p = none → mTgF ts rs (putSt (putA a (.obj C0 ns (putDs f (.cls p) ns ds)) (putA p d0 (delA l0 S))) Γ2) Q
theorem t_FN (h : Q Γ) : mTgF [] [] Γ Q := h
theorem t_FC {d0 : D} (h : mo Γ fun ro Γ2 => tfk C0 f ts rs d0 Q ro Γ2) : mTgF ((C0, f, mo) :: ts) (.fr d0 :: rs) Γ Q := ⟨d0, rfl, h⟩
end
end DL
/-! the data layer, part 99: the end of a law whose own def is handed the store -/
namespace DL
open PySem PySem.Spec PyProof.Rows L2
end DL
/-! the data layer, part 100: len(o), o an object of the store with an own __len__ -/
namespace DL
open PySem PySem.Spec PyProof.Rows L2
def mLenH (C0 : Addr) (sd : DSp) (mo : DTE) : DTE := fun Γ Q => mCall [.S, .G] sd (mHnd C0 "__len__" mo mNil) Γ fun r Γ' => ∃ z : Int, r = .val (.int z) ∧ 0 ≤ z ∧ z < 2 ^ 63 ∧ Q r Γ'
section
variable {C0 : Addr} {sd : DSp} {mo : DTE} {Γ : Env} {Q : QE}
def lhk (Q : QE) (r : Res) (Γ' : Env) : Prop := ∃ z : Int, r = .val (.int z) ∧ 0 ≤ z ∧ z < 2 ^ 63 ∧ Q r Γ'
theorem e_LenH (h : mCall [.S, .G] sd (mHnd C0 "__len__" mo mNil) Γ fun r Γ' => lhk Q r Γ') : mLenH C0 sd mo Γ Q := h
theorem e_lenH {z : Int} (h0 : 0 ≤ z) (h1 : z < 2 ^ 63) (h : Q (.val (.int z)) Γ) : lhk Q (.val (.int z)) Γ := ⟨z, rfl, h0, h1, h⟩
end
end DL
/-! the data layer, part 101: x.split(y), x.join(texts) -/
namespace DL
open PySem PySem.Spec PyProof.Rows L2
def mSplit (mo me : DTE) : DTE := fun Γ Q => mo Γ fun r Γ1 => ∃ a, dat r = some (.str a) ∧ me Γ1 fun r2 Γ2 => ∃ b, dat r2 = some (.str b) ∧ (b.length == 0) = false ∧ a.length + 2 ≤ 100000 ∧ Q (.fr (.lst ((PySem.Txt.split a b).map D.str))) Γ2
def mJoin (mo me : DTE) : DTE := fun Γ Q => mo Γ fun r Γ1 => ∃ a, dat r = some (.str a) ∧ me Γ1 fun r2 Γ2 => ∃ ys : List Str, dat r2 = some (.lst (ys.map D.str)) ∧ (List.map (fun x => x.length) ys).sum + ys.length * a.length ≤ 16777216 ∧ Q (.val (.str (PySem.Txt.join a ys))) Γ2
/-! ### the evaluator -/
section
variable {Γ : Env} {Q : QE} {mo me : DTE} {a b : Str} {r : Res}
def spk1 (me : DTE) (Q : QE) (r : Res) (Γ1 : Env) : Prop := ∃ a, dat r = some (.str a) ∧ me Γ1 fun r2 Γ2 => ∃ b, dat r2 = some (.str b) ∧ (b.length == 0) = false ∧ a.length + 2 ≤ 100000 ∧ Q (.fr (.lst ((PySem.Txt.split a b).map D.str))) Γ2
def spk2 (a : Str) (Q : QE) (r2 : Res) (Γ2 : Env) : Prop := ∃ b, dat r2 = some (.str b) ∧ (b.length == 0) = false ∧ a.length + 2 ≤ 100000 ∧ Q (.fr (.lst ((PySem.Txt.split a b).map D.str))) Γ2
theorem e_Split (h : mo Γ fun r Γ1 => spk1 me Q r Γ1) : mSplit mo me Γ Q := h
theorem e_split1 (h : me Γ fun r2 Γ2 => spk2 a Q r2 Γ2) : spk1 me Q (.val (.str a)) Γ := ⟨a, rfl, h⟩
theorem e_split2 (h1 : (b.length == 0) = false) (h2 : a.length + 2 ≤ 100000) (h : Q (.fr (.lst ((PySem.Txt.split a b).map D.str))) Γ) : spk2 a Q (.val (.str b)) Γ := ⟨b, rfl, h1, h2, h⟩
def jnk1 (me : DTE) (Q : QE) (r : Res) (Γ1 : Env) : Prop := ∃ a, dat r = some (.str a) ∧ me Γ1 fun r2 Γ2 => ∃ ys : List Str, dat r2 = some (.lst (ys.map D.str)) ∧ (List.map (fun x => x.length) ys).sum + ys.length * a.length ≤ 16777216 ∧ Q (.val (.str (PySem.Txt.join a ys))) Γ2
def jnk2 (a : Str) (Q : QE) (r2 : Res) (Γ2 : Env) : Prop := ∃ ys : List Str, dat r2 = some (.lst (ys.map D.str)) ∧ (List.map (fun x => x.length) ys).sum + ys.length * a.length ≤ 16777216 ∧ Q (.val (.str (PySem.Txt.join a ys))) Γ2
theorem e_Join (h : mo Γ fun r Γ1 => jnk1 me Q r Γ1) : mJoin mo me Γ Q := h
theorem e_join1 (h : me Γ fun r2 Γ2 => jnk2 a Q r2 Γ2) : jnk1 me Q (.val (.str a)) Γ := ⟨a, rfl, h⟩
end
end DL
/-! the data layer, part 102: small words of the evaluator for the store -/
namespace DL
open PySem PySem.Spec PyProof.Rows L2
section
variable {f g h i : Str} {ns : List Str} {ds : List D} {d e e2 e3 : D}
theorem fld_3 (h1 : (f == g) = false) (h2 : (f == h) = false) : fldD (g :: h :: f :: ns) (e :: e2 :: d :: ds) f = some d := by rw [fldD, h1, if_neg Bool.false_ne_true, fld_2 h2]
theorem fld_4 (h1 : (f == g) = false) (h2 : (f == h) = false) (h3 : (f == i) = false) : fldD (g :: h :: i :: f :: ns) (e :: e2 :: e3 :: d :: ds) f = some d := by rw [fldD, h1, if_neg Bool.false_ne_true, fld_3 h2 h3]
theorem rds_hd1 {Γ : Env} {S : Stor} {l : Addr} {xs : List D} (h : stOf Γ = some S) (e : S.lookup l = some (.lst xs)) : rds Γ [.hd l] = some [.lst xs] := by unfold rds; rw [rd_hd h e]; rfl
theorem e_mkr {r : Res} {P : Prop} (h : P) : r = r ∧ P := ⟨rfl, h⟩
end
end DL
/-! the data layer, part 103: len(set(l)), l a list of texts -/
namespace DL
open PySem PySem.Spec PyProof.Rows L2
/-- of the first i texts how many are new -/
def difN1 (xs : List Str) : Nat → Nat
  | 0 => 0
  | i + 1 => if ((xs.take i).any (· == xs.getD i Str.empty)) = true then difN1 xs i else difN1 xs i + 1
def difS (xs : List Str) : Nat := difN1 xs xs.length
def mLenSetS (ma : DTE) : DTE := fun Γ Q => ma Γ fun r Γ1 => ∃ xs : List Str, rd Γ1 r = some (.lst (xs.map D.str)) ∧ xs.length ≤ 1000 ∧ Q (.val (.int (difS xs))) Γ1
def lszS (r : Res) (Γ : Env) (Q : QE) : Prop := ∃ xs : List Str, rd Γ r = some (.lst (xs.map D.str)) ∧ xs.length ≤ 1000 ∧ Q (.val (.int (difS xs))) Γ
theorem e_LenSetS {ma : DTE} {Γ : Env} {Q : QE} (h : ma Γ fun r Γ1 => lszS r Γ1 Q) : mLenSetS ma Γ Q := h
theorem e_lensetS {r : Res} {Γ : Env} {Q : QE} {xs : List Str} (h1 : rd Γ r = some (.lst (xs.map D.str))) (h2 : xs.length ≤ 1000) (h : Q (.val (.int (difS xs))) Γ) : lszS r Γ Q := ⟨xs, h1, h2, h⟩
end DL
/-! the data layer, part 104: while one expression that answers a plain value is read, all places and the objects of the store are looked at as shared data -/
namespace DL
open PySem PySem.Spec PyProof.Rows L2
/-! ### the attributes without the doubled ones -/
/-! ### the places, looked at -/
end DL
/-! the data layer, part 105: a test with the places looked at -/
namespace DL
open PySem PySem.Spec PyProof.Rows L2
def mBorTs (mt : DTT) : DTT := fun Γ Q => mt (allSh Γ) fun b _ => Q b Γ
section
variable {X : Cx} {C : Ctx} {e : Expr} {tt : TT} {mt : DTT}
theorem e_BorTs {Γ Γ' : Env} {Q : Bool → Env → Prop} (h1 : allSh Γ = Γ') (h : mt Γ' fun b _ => Q b Γ) : mBorTs mt Γ Q := by subst h1; exact h
end
end DL
/-! the data layer, part 106: a def that is called within an except suite, the caught exception among its arguments -/
namespace DL
open PySem PySem.Spec PyProof.Rows L2
/-- a def's promise while the exception (a, oe) is handled -/
structure FnE (P : Program) (w : World) (K : Fg) (mg : Str → Option Value) (base : Heap) (k : Nat) (f : Addr) (fd : FuncData) (ps : List Str) (sp : Value → Option Addr → Addr → Sp) : Prop where
  len : ∀ c d a vs H Q E, sp c d a vs H Q E → vs.length = ps.length
  go : ∀ (A : Around), A.guards = some [] → L2H.RoomH k A → ∀ (outer : List PySem.Env) (s : Shared) (H : Hp) (args : Args) (us : List Value) (vs : List V) (Q : VK) (E : XK) (a : Addr) (oe : Obj) (cls : Value) (d : Option Addr),
    A.handled = some (.ref a) → L2H.PinOk outer H s (a, oe) → Zc cls d oe → (∃ fs, oe.data = .fields fs) →
    Env0 P w K mg base A outer s H → BindsTo s fd args (ps.zip us) → Vals vs us → sp cls d a vs H Q E → codeAny (model P w) A (.call (.ref f) args) (CR (L2N.CX P w) outer P w H s Q E) s
theorem FnE.mono {P : Program} {w : World} {K : Fg} {mg : Str → Option Value} {base : Heap} {k j : Nat} {f : Addr} {fd : FuncData} {ps : List Str} {sp : Value → Option Addr → Addr → Sp} (F : FnE P w K mg base j f fd ps sp) (h : j ≤ k) : FnE P w K mg base k f fd ps sp := ⟨F.len, fun A g hr => F.go A g (hr.mono h)⟩
abbrev HSp := Str → List (Str × D) → Addr → DSp
/-! ### the call -/
/-- a call within the suite -/
def mCallE (n : Str) (fds : List (Str × D)) (a : Addr) (ms : List Md) (sd : Str → List (Str × D) → Addr → DSp) (ma : DTA) : DTE := fun Γ Q => ma Γ fun rs Γ1 => ∃ ds, argsD Γ1 ms rs = some ds ∧ apartB ms rs = true ∧
  sd n fds a ds (fun b d ds' => ∃ Γ2, putsD (mPls ms rs) ds' Γ1 = some Γ2 ∧ Q (if b = true then frOf d else .val d) Γ2) noX
theorem e_CallE {n : Str} {fds : List (Str × D)} {a : Addr} {ms : List Md} {sd : HSp} {mr : DTA} {Γ : Env} {Q : QE} (h : mr Γ fun rs Γ1 => clk ms (sd n fds a) Γ1 rs Q) : mCallE n fds a ms sd mr Γ Q := h
end DL
namespace DL
open PySem PySem.Spec PyProof.Rows L2
end DL
namespace DL
open PySem PySem.Spec PyProof.Rows L2
theorem e_poS {S : Stor} {Γ Γ' : Env} {l : Addr} {Q : QE} {xs : List D} {y : D} (h1 : stOf Γ = some S) (h2 : S.lookup l = some (.lst (xs ++ [y]))) (h5 : putSt (putA l (.lst xs) S) Γ = Γ') (h : Q (.val y) Γ') : mhj popD Q l [] Γ :=
  e_poH (xs := xs ++ [y]) h1 h2 (by rw [List.length_append, List.length_singleton, Nat.add_sub_cancel, List.getElem?_append_right (Nat.le_refl _), Nat.sub_self]; rfl) (by rw [List.dropLast_concat]; exact h5) h
end DL
/-! the data layer, part 107: xs.count(x), any data -/
namespace DL
open PySem PySem.Spec PyProof.Rows L2
def mCountD (mo mk : DTE) : DTE := fun Γ Q => mo Γ fun ro Γ1 => (∃ c, rd Γ1 ro = some c ∧ isLst c = true) ∧ mk Γ1 fun rk Γ2 => ∃ (ds : List D) (x : D), rd Γ2 ro = some (.lst ds) ∧ rd Γ2 rk = some x ∧ okE (.lst ds) = true ∧ okE x = true ∧ Q (.val (.int (ds.countP fun z => eqv z x : Nat))) Γ2
section
variable {Γ : Env} {Q : QE} {mo mi : DTE}
def cnbD (ro rk : Res) (Γ : Env) (Q : QE) : Prop := ∃ (ds : List D) (x : D), rd Γ ro = some (.lst ds) ∧ rd Γ rk = some x ∧ okE (.lst ds) = true ∧ okE x = true ∧ Q (.val (.int (ds.countP fun z => eqv z x : Nat))) Γ
def cnaD (ro : Res) (mi : DTE) (Γ : Env) (Q : QE) : Prop := (∃ c, rd Γ ro = some c ∧ isLst c = true) ∧ mi Γ fun rk Γ2 => cnbD ro rk Γ2 Q
theorem e_CountD (h : mo Γ fun ro Γ1 => cnaD ro mi Γ1 Q) : mCountD mo mi Γ Q := h
theorem e_cnaD {ro : Res} {c : D} (h1 : rd Γ ro = some c) (h2 : isLst c = true) (h : mi Γ fun rk Γ2 => cnbD ro rk Γ2 Q) : cnaD ro mi Γ Q := ⟨⟨c, h1, h2⟩, h⟩
theorem i_countK {ro rk : Res} {ds : List D} {x : D} {n : Nat} (h1 : rd Γ ro = some (.lst ds)) (h2 : rd Γ rk = some x) (h3 : okE (.lst ds) = true) (h4 : okE x = true) (h5 : (ds.countP fun z => eqv z x) = n) (h : Q (.val (.int (n : Nat))) Γ) : cnbD ro rk Γ Q := ⟨ds, x, h1, h2, h3, h4, by rw [h5]; exact h⟩
theorem i_indexK {ro rk : Res} {ds : List D} {x : D} {j : Nat} (h1 : rd Γ ro = some (.lst ds)) (h2 : rd Γ rk = some x) (h3 : okE (.lst ds) = true) (h4 : okE x = true) (h5 : (ds.findIdx? fun z => eqv z x) = some j) (h : Q (.val (.int (j : Nat))) Γ) : idb ro rk Γ Q := by
  obtain ⟨k1, k2, k3⟩ := List.findIdx?_eq_some_iff_getElem.mp h5
  refine ⟨ds, x, j, h1, h2, h3, h4, ⟨⟨ds[j], List.getElem?_eq_getElem k1, k2⟩, fun m z hm hz => ?_⟩, h⟩
  obtain ⟨hl, rfl⟩ := List.getElem?_eq_some_iff.mp hz
  simpa using k3 m hm
end
end DL
/-! the data layer, part 108: within an except suite: walks over lists and tuples, methods of the store's objects, their len -/
namespace DL
open PySem PySem.Spec PyProof.Rows L2
/-! ### walks -/
/-! ### methods of the store's objects -/
/-- o.m(..) within the suite; len(o) -/
def mLenE (n : Str) (fds : List (Str × D)) (a C0 : Addr) (sd : HSp) (mo : DTE) : DTE := fun Γ Q => mCallE n fds a [.S, .G] sd (mHnd C0 "__len__" mo mNil) Γ fun r Γ' => lhk Q r Γ'
section
variable {X : Cx} {C : Ctx} {k : Nat} {g C0 : Addr} {fd : FuncData} {ps : List Str} {ms : List Md} {sd : Str → List (Str × D) → Addr → DSp} {m : Str} {p pos apos : Pos} {o e : Expr} {es : List Expr} {to : TE} {mo : DTE} {t : TA} {mt : DTA} {a : Addr} {oe : Obj} {cls : Value} {d : Option Addr} {pn : List (Addr × Obj)} {n : Str} {fvs : List (Str × V)} {fds : List (Str × D)}
theorem e_LenE {Γ : Env} {Q : QE} (h : mCallE n fds a [.S, .G] sd (mHnd C0 "__len__" mo mNil) Γ fun r Γ' => lhk Q r Γ') : mLenE n fds a C0 sd mo Γ Q := h
end
end DL
/-! the data layer, part 109: frozen objects whose making may raise; repr of a thing that may be an own object; displays of ints by ints -/
namespace DL
open PySem PySem.Spec PyProof.Rows L2
/-- C(..), a frozen object whose __init__ may raise -/
def mMakeX (Wd : Dwx) (C : Addr) (ms : List Md) (sd : DSp) (ma : DTA) : DTE := fun Γ Q => ma Γ fun rs Γ1 => ∃ ds, argsD Γ1 ms rs = some ds ∧ apartB ms rs = true ∧
  sd (.obj C [] [] :: ds) (fun b d ds' => d = .non ∧ ∃ d0 r0 Γ2, ds' = d0 :: r0 ∧ putsD (mPls ms rs) r0 Γ1 = some Γ2 ∧ Q (.fr d0) Γ2) (fun n fds ds' => ∃ d0 r0 Γ2, ds' = d0 :: r0 ∧ putsD (mPls ms rs) r0 Γ1 = some Γ2 ∧ Wd n fds Γ2)
section
variable {C : Ctx} {C0 : Addr} {t : TA} {mt : DTA} {ms : List Md} {sd : DSp} {W : WX} {Wd : Dwx}
theorem sim_makeX (wl : WLink C W Wd) (ha : SimA C t mt) : SimE C (tMakeW C0 (spD C.K (.M :: ms) sd) W t) (mMakeX Wd C0 ms sd mt) := fun Γ O σ H Qd Q R h k => by
  refine ha Γ O σ H _ _ R h fun rs Γ1 vs H1 R1 p1 e1 q1 => ?_
  obtain ⟨ds, hd, hap, hsd⟩ := q1
  intro x dx hx hdx hne
  have hx' : (upd H1 dx (.own x)) x = none := by rw [upd_ne (Ne.symm hne)]; exact hx
  have R1' : RelO C Γ1 O σ (upd H1 dx (.own x)) := R1.alloc hdx
  have R2 : RelO C Γ1 (x :: O) σ (upd (upd H1 dx (.own x)) x (.ins C0 dx [])) := R1'.allocO hx'
  have eS : Same (hide O H1) (hide (x :: O) (upd (upd H1 dx (.own x)) x (.ins C0 dx []))) := L2.Same.trans (hide_new hdx rfl) (hide_newO hx' rfl)
  have kp : ∀ l o, H1 l = some o → (upd (upd H1 dx (.own x)) x (.ins C0 dx [])) l = some o := fun l o e => by
    rw [upd_ne (ne_of_none e hx), upd_ne (ne_of_none e hdx)]; exact e
  unfold apartB at hap
  rw [Bool.and_eq_true, Bool.and_eq_true] at hap
  have nd : (mPls ms rs).Nodup := of_decide_eq_true hap.1.1
  have hb : ∀ i ∈ bPls ms rs, i ∉ mPls ms rs := fun i hi => of_decide_eq_true (List.all_eq_true.mp hap.1.2 i hi)
  obtain ⟨ds0, S, hd0, rfl, hst⟩ := argsD_split hd
  obtain ⟨hc, hmu⟩ := chg_of R1 p1 hd0
  have hargs := (args_of R1 hc hmu p1 hd0 hb).lift eS kp (fun a ha => List.mem_cons_of_mem _ ha) hx fun a z => Pv_upd rfl (Pv_upd rfl z)
  have ndA := chg_nodup R1 hc hmu nd
  have xO : x ∉ O := R1.notin hx
  have xA : x ∉ mAddrs (strip ms) vs := fun z => by
    obtain ⟨i, hi, e⟩ := hc.at z
    exact xO (R1.mutIn (.inl ⟨hmu i hi, e⟩))
  have hS0 : StG ms C.K (x :: O) (upd (upd H1 dx (.own x)) x (.ins C0 dx [])) S := fun hg => by
    obtain ⟨i0, hi0, _⟩ := stOf_at (hst hg)
    exact (R2.sl i0 _ hi0).2.2
  refine ⟨x :: O, .obj C0 [] [] :: ds0, S, _, _, .M List.mem_cons_self upd_same (.obj rfl rfl .nil) hargs, R2.al, ⟨List.nodup_cons.mpr ⟨xA, ndA⟩, R2.pv.here⟩, hS0, hsd, fun v H' O' b d ds' S' post hms hS' hres hq => ?_, fun n c d H' O' fds ds' S' post hms hS' hn hxx hE => ?_⟩
  · obtain ⟨rfl, d0, r0, Γ2, e0, hput, hq⟩ := hq
    have hv : v = .non := by
      cases b with
      | true => rcases hres with ⟨_, _, _, _, _, _, z⟩ | ⟨_, _, _, _, _, _, z, _⟩ <;> cases z
      | false => have z : Rep C.K (hide O' H') v .non := hres; cases z; rfl
    refine ⟨hv, ?_⟩
    cases hms with
    | M hox hoo hms =>
      rename_i o' d1 ds1
      have e0 : d1 :: (ds1 ++ stoL ms S') = d0 :: r0 := e0
      cases e0
      have Rx := R2.updFree (p := x) (o := o') List.mem_cons_self (R1.fresh0 hx) (fun i m => xO (R1.mutIn m)) (fun q hq z => xO (z ▸ (R1.uu q hq).2.1)) hoo.tk
      have nrx : ∀ u, (upd (upd H1 dx (.own x)) x (.ins C0 dx [])) x = some u → rootO u = false := fun u e => by rw [upd_same] at e; cases e; rfl
      have post' : PostP (PstG ms (upd (upd (upd H1 dx (.own x)) x (.ins C0 dx [])) x o')) C.K (x :: O) (upd (upd (upd H1 dx (.own x)) x (.ins C0 dx [])) x o') (strip ms) vs H' O' := by
        refine ⟨post.sub, fun a ha => ?_, post.al, fun a o e ha np => ?_, ⟨post.pv.ex, fun a ha => ?_, fun a ha => ?_⟩, fun a ha he => ?_⟩
        · by_cases hax : a = x
          · exact .inl (hax ▸ List.mem_cons_self)
          · rcases post.new a ha with z | z
            · exact .inl z
            · exact .inr (by rw [upd_ne hax]; exact z)
        · by_cases hax : a = x
          · subst hax
            rw [upd_same] at e
            cases e
            exact hox
          · rw [upd_ne hax] at e
            exact post.fr a o e (fun z => (List.mem_cons.mp z).elim hax ha) fun z => np (PstG_mono (fun b zb => Pv_of_upd nrx zb) (show PstG ms _ a from z))
        · rcases post.pv.nw a ha with z | z
          · have hax : a ≠ x := fun e => by rw [e, upd_same] at z; cases z
            exact .inl (by rw [upd_ne hax]; exact z)
          · exact .inr (Pv_of_upd nrx z)
        · exact Rx.pv.here.h0 a ha
        · have hax : a ≠ x := fun e => by
            have := ha.pv
            rw [e] at this
            exact Rx.npv List.mem_cons_self this
          refine post.pc a (show PstG ms _ a from PstG_mono (fun b zb => Pv_upd hoo.nr zb) ha) ?_
          rw [upd_ne hax] at he
          exact he
      have p1' : Pends C.K (x :: O) σ (upd (upd (upd H1 dx (.own x)) x (.ins C0 dx [])) x o') vs rs := p1.mono2 (by rw [hide_mut List.mem_cons_self (R2.nr List.mem_cons_self) hoo.nr]; exact eS)
      obtain ⟨R3, e3, mO3⟩ := rel_call Rx p1' hd0 hst nd post' hms hS' hput
      rw [hide_mut List.mem_cons_self (R2.nr List.mem_cons_self) hoo.nr] at e3
      have mO : ∀ i a, MutAt Γ2 σ i a → a ∈ O := fun i a m => rel_mut R1 hd0 p1 nd hput hms m
      have uO : ∀ q ∈ C.U, q.1 ∈ O := fun q hq => (R1.uu q hq).2.1
      obtain ⟨R4, e4⟩ := R3.shrink (O := O) (fun a ha => post.sub a (List.mem_cons_of_mem _ ha)) mO uO R1.oo
      obtain ⟨R5, e5⟩ := R3.shrink (O := x :: O) post.sub (fun i a m => List.mem_cons_of_mem _ (mO i a m)) (fun q hq => List.mem_cons_of_mem _ (uO q hq)) fun a ha => List.mem_cons_of_mem _ (R1.oo a ha)
      exact k (.fr d0) Γ2 _ H' ⟨R4, x, o', rfl, hox, xO, R1.fresh0 hx, hoo.mono e5, R5⟩ (.fr (L2.Same.trans e1 (L2.Same.trans eS (L2.Same.trans e3 e5)))) hq
  · cases hms with
    | M hox hoo hms =>
      rename_i o' d1 ds1
      obtain ⟨d0, r0, Γ2, e0, hput, hw⟩ := hE
      have e0 : d1 :: (ds1 ++ stoL ms S') = d0 :: r0 := e0
      cases e0
      have Rx := R2.updFree (p := x) (o := o') List.mem_cons_self (R1.fresh0 hx) (fun i m => xO (R1.mutIn m)) (fun q hq z => xO (z ▸ (R1.uu q hq).2.1)) hoo.tk
      have nrx : ∀ u, (upd (upd H1 dx (.own x)) x (.ins C0 dx [])) x = some u → rootO u = false := fun u e => by rw [upd_same] at e; cases e; rfl
      have post' : PostP (PstG ms (upd (upd (upd H1 dx (.own x)) x (.ins C0 dx [])) x o')) C.K (x :: O) (upd (upd (upd H1 dx (.own x)) x (.ins C0 dx [])) x o') (strip ms) vs H' O' := by
        refine ⟨post.sub, fun a ha => ?_, post.al, fun a o e ha np => ?_, ⟨post.pv.ex, fun a ha => ?_, fun a ha => ?_⟩, fun a ha he => ?_⟩
        · by_cases hax : a = x
          · exact .inl (hax ▸ List.mem_cons_self)
          · rcases post.new a ha with z | z
            · exact .inl z
            · exact .inr (by rw [upd_ne hax]; exact z)
        · by_cases hax : a = x
          · subst hax
            rw [upd_same] at e
            cases e
            exact hox
          · rw [upd_ne hax] at e
            exact post.fr a o e (fun z => (List.mem_cons.mp z).elim hax ha) fun z => np (PstG_mono (fun b zb => Pv_of_upd nrx zb) (show PstG ms _ a from z))
        · rcases post.pv.nw a ha with z | z
          · have hax : a ≠ x := fun e => by rw [e, upd_same] at z; cases z
            exact .inl (by rw [upd_ne hax]; exact z)
          · exact .inr (Pv_of_upd nrx z)
        · exact Rx.pv.here.h0 a ha
        · have hax : a ≠ x := fun e => by
            have := ha.pv
            rw [e] at this
            exact Rx.npv List.mem_cons_self this
          refine post.pc a (show PstG ms _ a from PstG_mono (fun b zb => Pv_upd hoo.nr zb) ha) ?_
          rw [upd_ne hax] at he
          exact he
      have p1' : Pends C.K (x :: O) σ (upd (upd (upd H1 dx (.own x)) x (.ins C0 dx [])) x o') vs rs := p1.mono2 (by rw [hide_mut List.mem_cons_self (R2.nr List.mem_cons_self) hoo.nr]; exact eS)
      obtain ⟨R3, e3, mO3⟩ := rel_call Rx p1' hd0 hst nd post' hms hS' hput
      exact wl.go n c d fds Γ2 O' σ H' R3 hn (xd_at R2 hxx) hw
end
theorem de_makeX {X : Cx} {C : Ctx} {W : WX} {Wd : Dwx} {k : Nat} {g C0 : Addr} {fd : FuncData} {ps : List Str} {ms : List Md} {sd : DSp} {x : Str} {p1 pos : Pos} {e : Expr} {es : List Expr} {t : TA} {mt : DTA} (tk : Takes X W) (wl : WLink C W Wd) (M : Mk X.K C0 g) (F : FnG X.prog X.w X.K X.mg X.base k g fd ps (spD X.K (.M :: ms) sd)) (hg : X.A.guards = some []) (hr : Room (k + 1) X.A) (hgl : Gl X x) (hm : X.mg x = some (.ref C0)) (hb : Binds X.K fd ps []) (ha : DA X C (e :: es) t mt) {K0 : Fg} (hK0 : X.K = K0 := by rfl) (hK : K0 = C.K := by rfl)
    (hdb : (x == ("__debug__" : Str)) = false := by decide) (he : starEach (e :: es) X.env = (false, eval e X.env) :: starEach es X.env := by rfl) (hpl : (backTo pos (starEach es X.env)).any (·.1) = false := by rfl) :
    DE X C (.Call (.Name x p1) (e :: es) [] pos) (tMakeW C0 (spD K0 (.M :: ms) sd) W t) (mMakeX Wd C0 ms sd mt) := by
  subst hK0
  exact ⟨pe_makeW M F hg hr hgl hm hb tk ha.pa hdb he hpl, by rw [hK]; exact sim_makeX wl ha.sim⟩
def maX (is : List Nat) (Γ1 : Env) (Wd : Dwx) : EdT := fun n fds ds' => ∃ d0 r0 Γ2, ds' = d0 :: r0 ∧ putsD is r0 Γ1 = some Γ2 ∧ Wd n fds Γ2
def mkX (Wd : Dwx) (C : Addr) (ms : List Md) (sd : DSp) (Γ1 : Env) (rs : List Res) (Q : QE) : Prop := ∃ ds, argsD Γ1 ms rs = some ds ∧ apartB ms rs = true ∧ sd (.obj C [] [] :: ds) (mak (mPls ms rs) Γ1 Q) (maX (mPls ms rs) Γ1 Wd)
section
variable {Wd : Dwx} {C : Addr} {ms : List Md} {sd : DSp} {mr : DTA} {Γ Γ' : Env} {Q : QE} {rs : List Res} {ds : List D} {d : D} {n : Str} {fds : List (Str × D)}
theorem e_MakeX (h : mr Γ fun rs Γ1 => mkX Wd C ms sd Γ1 rs Q) : mMakeX Wd C ms sd mr Γ Q := h
theorem e_makeX {is : List Nat} (h1 : argsD Γ ms rs = some ds) (h2 : apartB ms rs = true) (h3 : mPls ms rs = is) (h : sd (.obj C [] [] :: ds) (mak is Γ Q) (maX is Γ Wd)) : mkX Wd C ms sd Γ rs Q := ⟨_, h1, h2, by subst h3; exact h⟩
theorem e_maX {is : List Nat} {Γ1 : Env} (h1 : putsD is ds Γ = some Γ1) (h2 : Γ1 = Γ') (h : Wd n fds Γ') : maX is Γ Wd n fds (d :: ds) := ⟨d, ds, Γ1, rfl, h1, by rw [h2]; exact h⟩
end
/-! ### repr of a thing that may be an object of the class C -/
def mReprX (C : Addr) (sd : DSp) (ma : DTE) : DTE := fun Γ Q => ma Γ fun ra Γ1 => (∃ ns ds, dat ra = some (.obj C ns ds) ∧ sd [.obj C ns ds] (rpk Γ1 Q) noX) ∨ ∃ d, rd Γ1 ra = some d ∧ reprD [d] fun r => Q r Γ1
def rReprX (C : Addr) (K : Fg) (sp : Sp) (E : XK) : List V → Hp → VK → Prop := fun xs H Q => rOwnRepr C sp E xs H Q ∨ rRepr K xs H Q
section
variable {C : Ctx} {C0 : Addr} {ta : TE} {ma : DTE} {sd : DSp} {E : XK}
theorem sim_reprX (ha : SimE C ta ma) : SimE C (tCB (rReprX C0 C.K (spD C.K [.S] sd) E) (tCons ta tNil)) (mReprX C0 sd ma) := fun Γ O σ H Qd Q R h k => by
  refine ha Γ O σ H _ _ R h fun ra Γ1 x H1 R1 e1 q1 => ?_
  rcases q1 with ⟨ns, ds, h1, hsd⟩ | ⟨d, hd, hr⟩
  rotate_left
  · exact .inr (sim_repr O H1 [x] [d] _ _ (.cons (R1.pend.b2 R1.rel hd) .nil) hr (outs_of R1.rel e1.1 k))
  obtain ⟨a, dx, fs, rfl, hH, rfl, rr⟩ := (show B2 C.K O H1 x _ from .inl (R1.pend.dat h1)).obj
  refine .inl ⟨a, dx, fs, rfl, hH, ?_⟩
  have hd : argsD Γ1 [.S] [ra] = some [.obj C0 (fs.map (·.1)) ds] := by
    simp only [argsD, argsD0, strip, hasG, arg1, h1]
  refine call_core (Qd := fun r Γ' => Γ' = Γ1 ∧ ∃ z, r = .val (.str z) ∧ Qd (.val (.str z)) Γ1) (rs := [ra]) R1.rel (.cons R1.pend .nil) hd (by rfl) (Ed := noX) ?_ (fun r Γ' v H' r1 se q => ?_) fun _ _ _ _ _ _ _ _ _ _ z => z.elim
  · exact hsd
  · obtain ⟨rfl, z, rfl, q⟩ := q
    obtain ⟨r1, r2⟩ := r1
    cases r2
    exact ⟨z, rfl, k (.val (.str z)) Γ' _ H' ⟨r1, .str _⟩ (.val (L2.Same.trans e1.1 se.1)) q⟩
end
theorem de_reprX {X : Cx} {C : Ctx} {k : Nat} {g C0 : Addr} {fd : FuncData} {ps : List Str} {sd : DSp} {a : Expr} {ta : TE} {ma : DTE} {p pos : Pos} (hu : X.A.units + 100 < cLine) (hs : PySem.W.findIn X.K (.ref C0) "__repr__" = some (some (.ref g))) (hf : PySem.W.isFn X.K (.ref g) = true) (F : FnG X.prog X.w X.K X.mg X.base k g fd ps (spD X.K [.S] sd)) (hg : X.A.guards = some []) (hr : Room (k + 1) X.A) (hb : Binds X.K fd ps []) (hgl : Gl X "repr") (hm : X.mg "repr" = none) (ha : DE X C a ta ma)
    {K0 : Fg} (hK0 : X.K = K0 := by rfl) (hK : K0 = C.K := by rfl) (he : starEach [a] X.env = (false, eval a X.env) :: starEach [] X.env := by rfl) :
    DE X C (.Call (.Name "repr" p) [a] [] pos) (tCB (rReprX C0 K0 (spD K0 [.S] sd) E0) (tCons ta tNil)) (mReprX C0 sd ma) := by
  subst hK0
  have hc : CallR X (.builtin "repr") (rReprX C0 X.K (spD X.K [.S] sd) E0) := fun pins s σ H xs us Q I r h => by
    rcases h with h | h
    · exact cr_ownRepr F hg hr hs hf hb passL pins s σ H xs us Q I r h
    · exact call_repr hg hu pins s σ H xs us Q I r h
  exact ⟨pe_callB hc hgl hm (by decide +kernel) (pa_cons ha.pe pa_nil he) (he := he) (hpl := rfl), by rw [hK]; exact sim_reprX ha.sim⟩
def rxk (C : Addr) (sd : DSp) (r : Res) (Γ1 : Env) (Q : QE) : Prop := (∃ ns ds, dat r = some (.obj C ns ds) ∧ sd [.obj C ns ds] (rpk Γ1 Q) noX) ∨ ∃ d, rd Γ1 r = some d ∧ reprD [d] fun r => Q r Γ1
theorem e_ReprX {C : Addr} {sd : DSp} {ma : DTE} {Γ : Env} {Q : QE} (h : ma Γ fun r Γ1 => rxk C sd r Γ1 Q) : mReprX C sd ma Γ Q := h
/-! ### isinstance(x, T), T a built-in type, x a thing that may be an object of the class C -/
def mIsiX (C : Addr) (T : String) (ma : DTE) : DTE := fun Γ Q => ma Γ fun r Γ1 => (∃ d, rd Γ1 r = some d ∧ (tyN d).isSome = true ∧ Q (.val (.bl (isTy T d))) Γ1) ∨ ∃ ns ds, rd Γ1 r = some (.obj C ns ds) ∧ Q (.val (.bl false)) Γ1
section
variable {X : Cx} {C : Ctx} {C0 : Addr} {ta : TE} {ma : DTE} {a : Expr} {p p2 pos : Pos}
theorem sim_isiX {T : String} (I : InsD C.K C0) (hk : PySem.W.kitOne C.K (.ref C0) (.type T) = some false) (h2 : T ∈ (["bool", "int", "str", "list", "tuple", "dict"] : List String)) (ha : SimE C ta ma) : SimE C (tCB (rIsi C.K) (tCons ta (tCons (tC (.ty T)) tNil))) (mIsiX C0 T ma) := fun Γ O σ H Qd Q R h k => by
  refine ha Γ O σ H _ _ R h fun ra Γ1 x H1 R1 e1 q1 => ?_
  rcases q1 with ⟨d, hd, ht, q⟩ | ⟨ns, ds, hd, q⟩
  · obtain ⟨t, ht⟩ := Option.isSome_iff_exists.mp ht
    obtain ⟨ty, hm⟩ := tyx_of (R1.pend.b2 R1.rel hd) ht
    refine ⟨x, .ty T, .type t, .type T, isTy T d, rfl, .ty T, ty, ?_, k (.val (.bl (isTy T d))) Γ1 _ H1 ⟨R1.rel, .bl _⟩ (.val e1.1) q⟩
    unfold isTy
    rw [ht]
    exact kit_ty (kit_name hm h2)
  · obtain ⟨b, dx, fs, rfl, hH, _, _⟩ := (R1.pend.b2 R1.rel hd).obj
    exact ⟨_, .ty T, _, .type T, false, rfl, .ty T, .base (.ins hH I.cl I.ha I.hn I.htk I.hm), hk, k (.val (.bl false)) Γ1 _ H1 ⟨R1.rel, .bl _⟩ (.val e1.1) q⟩
theorem de_isiX {T : String} {x : Str} (I : InsD X.K C0) (hk : PySem.W.kitOne X.K (.ref C0) (.type T) = some false) (h2 : T ∈ (["bool", "int", "str", "list", "tuple", "dict"] : List String)) (hg : Gl X "isinstance") (hm : X.mg "isinstance" = none) (ha : DE X C a ta ma) (hT : PE X (.Name x p2) (tC (.ty T)))
    (he : starEach [a, .Name x p2] X.env = (false, eval a X.env) :: starEach [.Name x p2] X.env := by rfl) (he2 : starEach [.Name x p2] X.env = (false, eval (.Name x p2) X.env) :: starEach [] X.env := by rfl) (hpl : (backTo pos (starEach [.Name x p2] X.env)).any (·.1) = false := by rfl) {K0 : Fg} (hK0 : X.K = K0 := by rfl) (hK : K0 = C.K := by rfl) :
    DE X C (.Call (.Name "isinstance" p) [a, .Name x p2] [] pos) (tCB (rIsi K0) (tCons ta (tCons (tC (.ty T)) tNil))) (mIsiX C0 T ma) := by
  subst hK0
  exact ⟨pe_callB call_isi hg hm (by decide +kernel) (pa_cons ha.pe (pa_cons hT pa_nil he2) he) (he := he) (hpl := hpl), by rw [hK]; exact sim_isiX (hK ▸ I) (hK ▸ hk) h2 ha.sim⟩
def ixk (C : Addr) (T : String) (r : Res) (Γ1 : Env) (Q : QE) : Prop := (∃ d, rd Γ1 r = some d ∧ (tyN d).isSome = true ∧ Q (.val (.bl (isTy T d))) Γ1) ∨ ∃ ns ds, rd Γ1 r = some (.obj C ns ds) ∧ Q (.val (.bl false)) Γ1
theorem e_IsiX {T : String} {Γ : Env} {Q : QE} (h : ma Γ fun r Γ1 => ixk C0 T r Γ1 Q) : mIsiX C0 T ma Γ Q := h
end
/-! ### displays of ints by ints -/
def kvDI (kvs : List (Int × Int)) : List (L2.Key × D) := kvs.map fun p => (.inl p.1, .int p.2)
def kvVI (kvs : List (Int × Int)) : List (L2.Key × V) := kvs.map fun p => (.inl p.1, .int p.2)
def mDictI (kvs : List (Int × Int)) : DTE := fun Γ Q => Q (.fr (.dic (kvDI kvs))) Γ
theorem putK_newLI {acc : List (L2.Key × V)} {k : L2.Key} {v : V} (h : k ∉ acc.map (·.1)) : L2.putK acc k v = acc ++ [(k, v)] := by
  unfold L2.putK
  rw [if_neg]
  rw [List.any_eq_true]
  rintro ⟨x, hx, e⟩
  exact h (List.mem_map.mpr ⟨x, hx, of_decide_eq_true e⟩)
theorem merge_newI : ∀ {kvs : List (Int × Int)} {acc : List (L2.Key × V)}, (acc.map (·.1) ++ (kvVI kvs).map (·.1)).Nodup → mergeK acc (kvVI kvs) = acc ++ kvVI kvs
  | [], acc, _ => by unfold mergeK kvVI; simp
  | p :: kvs, acc, h => by
    have e : mergeK acc (kvVI (p :: kvs)) = mergeK (L2.putK acc (.inl p.1) (.int p.2)) (kvVI kvs) := rfl
    have h' : (acc.map (·.1) ++ ((.inl p.1 : L2.Key) :: (kvVI kvs).map (·.1))).Nodup := h
    have hn : (.inl p.1 : L2.Key) ∉ acc.map (·.1) := fun z => (List.nodup_append.mp h').2.2 _ z _ (List.mem_cons_self ..) rfl
    rw [e, putK_newLI hn, merge_newI (kvs := kvs) (by rw [List.map_append, List.append_assoc]; exact h')]
    rw [List.append_assoc]; rfl
inductive TxI (C : Ctx) : List (TE × TE) → List (Int × Int) → Prop
  | nil : TxI C [] []
  | cons {tk tv : TE} {k v : Int} {trs kvs} : SimE C tk (mC (.int k)) → SimE C tv (mC (.int v)) → TxI C trs kvs → TxI C ((tk, tv) :: trs) ((k, v) :: kvs)
theorem TxI.run {C : Ctx} {Γ : Env} {O : List Addr} {σ : L2.St} : ∀ {trs : List (TE × TE)} {kvs : List (Int × Int)} {H : Hp} {Q : List (V × V) → Hp → Prop}, TxI C trs kvs → RelO C Γ O σ H → (∀ H2, RelO C Γ O σ H2 → L2.Same (hide O H) (hide O H2) → Q ((kvVI kvs).map fun kv => (kV kv.1, kv.2)) H2) → tPairs trs σ H Q
  | _, _, H, Q, .nil, R, k => k H R (L2.Same.refl _)
  | _, _, H, Q, .cons (k := kk) (v := vv) hk hv r, R, k => by
    refine hk Γ O σ H (fun r Γ' => r = .val (.int kk) ∧ Γ' = Γ) _ R ⟨rfl, rfl⟩ fun r1 Γ1 x H1 R1 e1 q1 => ?_
    obtain ⟨rfl, rfl⟩ := q1
    refine hv Γ1 O σ H1 (fun r Γ' => r = .val (.int vv) ∧ Γ' = Γ1) _ R1.rel ⟨rfl, rfl⟩ fun r2 Γ2 y H2 R2 e2 q2 => ?_
    obtain ⟨rfl, rfl⟩ := q2
    have p1 := (R1.pend.mono e2.1).dat (d := .int kk) rfl
    have p2 := R2.pend.dat (d := .int vv) rfl
    cases p1
    cases p2
    exact TxI.run r R2.rel fun H3 R3 e3 => k H3 R3 (L2.Same.trans e1.1 (L2.Same.trans e2.1 e3))
theorem repK_kvI {K : Fg} {H : Hp} : ∀ kvs : List (Int × Int), RepK K H (kvVI kvs) (kvDI kvs)
  | [] => .nil
  | p :: kvs => .cons (.int p.2) (repK_kvI kvs)
section
variable {X : Cx} {C : Ctx} {pos : Pos}
theorem sim_dictI {trs : List (TE × TE)} {kvs : List (Int × Int)} (hs : ∀ U, TxI { C with U := U } trs kvs) (hn : (kvs.map (·.1)).Nodup) (hl : kvs.length ≤ 15) : SimE C (tDisp trs) (mDictI kvs) := fun Γ O σ H Qd Q R h kk => by
  intro p hp
  have hnp := R.notin hp
  have h0 := R.fresh0 hp
  have hU : ∀ q ∈ C.U, q.1 ≠ p := fun q hq z => hnp (z ▸ (R.uu q hq).2.1)
  have R0 := R.allocO (o := .dK []) hp
  have RU : RelO { C with U := (p, .dK []) :: C.U } Γ (p :: O) σ (upd H p (.dK [])) := R0.congrU fun q hq => by
    rcases List.mem_cons.mp hq with z | z
    · subst z; exact ⟨upd_same, List.mem_cons_self, fun i m => hnp (R.mutIn m)⟩
    · exact R0.uu q z
  refine (hs _).run RU fun H2 R2 e2 => ?_
  have up := R2.uu _ List.mem_cons_self
  have RC : RelO C Γ (p :: O) σ H2 := R2.backU fun q hq => List.mem_cons_of_mem _ hq
  have Ru := RC.updFree (o := .dK (kvVI kvs)) List.mem_cons_self h0 up.2.2 hU
  have e5 : hide (p :: O) (upd H2 p (.dK (kvVI kvs))) = hide (p :: O) H2 := hide_mut List.mem_cons_self (R2.nr List.mem_cons_self) rfl
  have RL := (Ru.letgo h0 up.2.2 hU (O' := O) fun a => ⟨fun h => ⟨List.mem_cons_of_mem _ h, fun z => hnp (z ▸ h)⟩, fun h => (List.mem_cons.mp h.1).resolve_left h.2⟩).1
  have hnd : (([] : List (L2.Key × V)).map (·.1) ++ (kvVI kvs).map (·.1)).Nodup := by
    rw [List.map_nil, List.nil_append]
    unfold kvVI
    rw [List.map_map]
    have e : (((fun x : L2.Key × V => x.1) ∘ fun p : Int × Int => ((.inl p.1 : L2.Key), V.int p.2))) = (Sum.inl : Int → L2.Key) ∘ (·.1) := rfl
    rw [e, ← List.map_map]
    exact List.pairwise_map.mpr (hn.imp fun hne z => hne (Sum.inl.inj z))
  refine ⟨up.1, kvVI kvs, rfl, by unfold kvVI; rw [List.length_map]; exact hl, ?_⟩
  rw [merge_newI hnd, List.nil_append]
  refine kk (.fr (.dic (kvDI kvs))) Γ _ _ ⟨RL, p, _, rfl, upd_same, hnp, h0, ?_, Ru⟩ (.fr ?_) h
  · rw [e5]
    exact .dic (repK_kvI kvs)
  · show Same (hide O H) (hide (p :: O) (upd H2 p (.dK (kvVI kvs))))
    rw [e5]
    exact L2.Same.trans (hide_newO hp rfl) e2
structure DXI (X : Cx) (C : Ctx) (pos : Pos) (ks : List (Option Expr)) (vs : List Expr) (trs : List (TE × TE)) (kvs : List (Int × Int)) : Prop where
  pe : PPs X pos ks vs trs
  sim : ∀ U, TxI { C with U := U } trs kvs
theorem dxi_nil : DXI X C pos [] [] [] [] := ⟨pps_nil, fun _ => .nil⟩
theorem dxi_cons {k v : Expr} {tk tv : TE} {kk vv : Int} {ks : List (Option Expr)} {vs : List Expr} {trs : List (TE × TE)} {kvs : List (Int × Int)} (hk : ∀ U, DE X { C with U := U } k tk (mC (.int kk))) (hv : ∀ U, DE X { C with U := U } v tv (mC (.int vv))) (hr : DXI X C pos ks vs trs kvs) : DXI X C pos (some k :: ks) (v :: vs) ((tk, tv) :: trs) ((kk, vv) :: kvs) :=
  ⟨pps_cons (hk C.U).pe (hv C.U).pe hr.pe, fun U => .cons (hk U).sim (hv U).sim (hr.sim U)⟩
theorem de_dictI {ks : List (Option Expr)} {vs : List Expr} {trs : List (TE × TE)} {kvs : List (Int × Int)} (h : DXI X C pos ks vs trs kvs) (hn : (kvs.map (·.1)).Nodup := by decide +kernel) (hl : kvs.length ≤ 15 := by decide) (hall : ks.all (·.isSome) = true := by rfl) (hl2 : ks.length = vs.length := by rfl) (h0 : ks ≠ [] := by simp) (h15 : ks.length ≤ 15 := by simp) :
    DE X C (.Dict ks vs pos) (tDisp trs) (mDictI kvs) := ⟨pe_disp h.pe hall hl2 h0 h15, sim_dictI h.sim hn hl⟩
end
theorem e_DictI {Γ : Env} {Q : QE} {kvs : List (Int × Int)} (h : Q (.fr (.dic (kvDI kvs))) Γ) : mDictI kvs Γ Q := h
end DL
namespace LW
open PySem PySem.Spec PyProof.Rows L2 DL
/-! printed by wip/gen.py: the defs of the text, what their bodies read as, and that they keep it -/
def topS (i : Nat) : Stmt := PySem.Challenge.pw_ringcalls_k14_rings_refused.main.body.getD i (.Pass ⟨0, 0, 0, 0⟩)
abbrev s_is_integer : Stmt := topS 9
theorem sc_is_integer : FnScope ["thing"] ["thing"] (defScope s_is_integer) := ⟨rfl, rfl, rfl, by decide +kernel, rfl, by decide +kernel, by decide +kernel⟩
abbrev s_is_between : Stmt := topS 10
theorem sc_is_between : FnScope ["thing", "least", "most"] ["thing", "least", "most"] (defScope s_is_between) := ⟨rfl, rfl, rfl, by decide +kernel, rfl, by decide +kernel, by decide +kernel⟩
abbrev s_is_size : Stmt := topS 11
theorem sc_is_size : FnScope ["thing"] ["thing"] (defScope s_is_size) := ⟨rfl, rfl, rfl, by decide +kernel, rfl, by decide +kernel, by decide +kernel⟩
abbrev s_Ring___init__ : Stmt := inClass (topS 13) 0
theorem sc_Ring___init__ : FnScope ["self", "ranks", "rank"] ["self", "ranks"] (defScope s_Ring___init__) := ⟨rfl, rfl, rfl, by decide +kernel, rfl, by decide +kernel, by decide +kernel⟩
abbrev s_Ring_ranks : Stmt := inClass (topS 13) 3
theorem sc_Ring_ranks : FnScope ["self"] ["self"] (defScope s_Ring_ranks) := ⟨rfl, rfl, rfl, by decide +kernel, rfl, by decide +kernel, by decide +kernel⟩
abbrev s_Ring___repr__ : Stmt := inClass (topS 13) 10
theorem sc_Ring___repr__ : FnScope ["self"] ["self"] (defScope s_Ring___repr__) := ⟨rfl, rfl, rfl, by decide +kernel, rfl, by decide +kernel, by decide +kernel⟩
abbrev s_law_bag : Stmt := topS 15
theorem sc_law_bag : FnScope ["_law_script", "_law_cell"] ["_law_script"] (defScope s_law_bag) := ⟨rfl, rfl, rfl, by decide +kernel, rfl, by decide +kernel, by decide +kernel⟩
abbrev s_law_take : Stmt := topS 16
theorem sc_law_take : FnScope ["_law_bag_here", "_law_many", "_law_first", "_law_second", "_law_cell", "_law_value"] ["_law_bag_here", "_law_many"] (defScope s_law_take) := ⟨rfl, rfl, rfl, by decide +kernel, rfl, by decide +kernel, by decide +kernel⟩
abbrev s_law_alike : Stmt := topS 17
theorem sc_law_alike : FnScope ["_law_found", "_law_due"] ["_law_found", "_law_due"] (defScope s_law_alike) := ⟨rfl, rfl, rfl, by decide +kernel, rfl, by decide +kernel, by decide +kernel⟩
abbrev s_law_whole : Stmt := topS 18
theorem sc_law_whole : FnScope ["_law_thing"] ["_law_thing"] (defScope s_law_whole) := ⟨rfl, rfl, rfl, by decide +kernel, rfl, by decide +kernel, by decide +kernel⟩
abbrev s_law_some_size : Stmt := topS 19
theorem sc_law_some_size : FnScope ["_law_bag_here", "_law_most"] ["_law_bag_here", "_law_most"] (defScope s_law_some_size) := ⟨rfl, rfl, rfl, by decide +kernel, rfl, by decide +kernel, by decide +kernel⟩
abbrev s_law_ranks : Stmt := topS 20
theorem sc_law_ranks : FnScope ["_law_bag_here", "_law_size", "_law_place", "_law_way", "_law_found", "_law_spot", "_law_few", "_law_great", "_law_rank"] ["_law_bag_here", "_law_size"] (defScope s_law_ranks) := ⟨rfl, rfl, rfl, by decide +kernel, rfl, by decide +kernel, by decide +kernel⟩
abbrev s_law_odd : Stmt := topS 21
theorem sc_law_odd : FnScope ["_law_bag_here", "_law_size", "_law_some"] ["_law_bag_here", "_law_size"] (defScope s_law_odd) := ⟨rfl, rfl, rfl, by decide +kernel, rfl, by decide +kernel, by decide +kernel⟩
abbrev s_law_spoiled : Stmt := topS 22
theorem sc_law_spoiled : FnScope ["_law_bag_here", "_law_thing", "_law_at", "_law_way", "_law_several"] ["_law_bag_here", "_law_thing"] (defScope s_law_spoiled) := ⟨rfl, rfl, rfl, by decide +kernel, rfl, by decide +kernel, by decide +kernel⟩
abbrev s_law_is_right : Stmt := topS 23
theorem sc_law_is_right : FnScope ["_law_thing", "_law_one"] ["_law_thing"] (defScope s_law_is_right) := ⟨rfl, rfl, rfl, by decide +kernel, rfl, by decide +kernel, by decide +kernel⟩
abbrev s_law_told : Stmt := topS 24
theorem sc_law_told : FnScope ["_law_thing", "e"] ["_law_thing"] (defScope s_law_told) := ⟨rfl, rfl, rfl, by decide +kernel, rfl, by decide +kernel, by decide +kernel⟩
abbrev s_law : Stmt := topS 25
theorem sc_law : FnScope ["_law_script", "_law_bag_here", "_law_go", "_law_size", "_law_thing", "_law_turn", "_law_text", "_law_due", "_law_again"] ["_law_script"] (defScope s_law) := ⟨rfl, rfl, rfl, by decide +kernel, rfl, by decide +kernel, by decide +kernel⟩
section
variable {P : Program} {w : World} {K : PySem.W.Frag} {mg : Str → Option Value} {base : Heap}
abbrev s_Wrong___init__ : Stmt := inClass (topS 3) 0
theorem sc_Wrong___init__ : FnScope ["self", "place"] ["self", "place"] (defScope s_Wrong___init__) := ⟨rfl, rfl, rfl, by decide +kernel, rfl, by decide +kernel, by decide +kernel⟩
theorem walk_Wrong___init__ {f : Addr} {fd : FuncData} (F : Fun K "__init__" "Wrong.__init__" s_Wrong___init__ f fd) {C_RingError : Addr} (g_RingError : mg "RingError" = some (.ref C_RingError)) (rd : PySem.W.readsIn K C_RingError (.type "type") = true)
    (ga : PySem.W.specialIn K (.ref C_RingError) "__getattribute__" = some (some (.builtin "type.__getattribute__"))) (vV : PySem.W.findCls K (.ref C_RingError) (.type "type") "__init__" = some (.val (.builtin "ValueError.__init__"))) : FnG P w K mg base 1 f fd ["self", "place"] (spXI K ["place"]) := by
  refine fn_g F sc_Wrong___init__ (spXI_len rfl) fun cdv A outer s H vs Q E hg hr hsp => ?_
  have sc := sc_Wrong___init__
  exact ⟨_, pss_cons (ps_expr (pe_rinit (by rfl) g_RingError rd ga vV (pa_cons (pv 0) (pa_cons pe_str pa_nil)))) (pss_one (ps_ost (pv 0) (pv 1))), read_init1 hsp⟩
/-- is_integer(thing) -/
def m_is_integer  : DTS :=
    (mRet (mAndV (mIsi "int" (mVar 0)) (mNotV (mIsi "bool" (mVar 0)))))
set_option maxHeartbeats 4000000 in
theorem walk_is_integer {f : Addr} {fd : FuncData} (F : Fun K "is_integer" "is_integer" s_is_integer f fd) (z_isinstance : mg "isinstance" = none) (z_bool : mg "bool" = none) (z_int : mg "int" = none)
    {sd : DSp} (hv : ∀ ds Qd Ed, ds.length = 1 → sd ds Qd Ed → m_is_integer (endsD [.S] Qd) (startD ["thing"] [.S] ds)) :
    FnG P w K mg base 1 f fd ["thing"] (spD K [.S] sd) := by
  refine fn_dm (N := ["thing"]) F sc_is_integer rfl hv fun cdv A outer s H0 vs E O H hg hr => ?_
  have sc := sc_is_integer
  unfold m_is_integer
  exact ⟨_, (ds_one (ds_ret (de_and (de_isi (T := "int") (by simp) (by rfl) z_isinstance (de_var 0 (pv 0)) (pe_bltn (by rfl) z_int (by decide +kernel) rfl)) (de_one (de_not (de_isi (T := "bool") (by simp) (by rfl) z_isinstance (de_var 0 (pv 0)) (pe_bltn (by rfl) z_bool (by decide +kernel) rfl)))))))⟩
/-- is_between(thing, least, most) -/
def m_is_between (sd_is_integer : DSp) : DTS :=
    (mRet (mAndV (mCall [.S] sd_is_integer (mCons (mVar 0) mNil)) (mChain (fun i j => decide (i ≤ j)) (fun i j => decide (i ≤ j)) (mVar 1) (mVar 0) (mVar 2))))
set_option maxHeartbeats 4000000 in
theorem walk_is_between {f : Addr} {fd : FuncData} (F : Fun K "is_between" "is_between" s_is_between f fd) {sd_is_integer : DSp}
    {f_is_integer : Addr} {fd_is_integer : FuncData} (F_is_integer : FnG P w K mg base 1 f_is_integer fd_is_integer ["thing"] (spD K [.S] sd_is_integer)) (g_is_integer : mg "is_integer" = some (.ref f_is_integer)) (k_is_integer : PySem.W.keepIn K (.ref f_is_integer) = true) (b_is_integer : Binds K fd_is_integer ["thing"] [])
    {sd : DSp} (hv : ∀ ds Qd Ed, ds.length = 3 → sd ds Qd Ed → m_is_between sd_is_integer (endsD [.S, .S, .S] Qd) (startD ["thing", "least", "most"] [.S, .S, .S] ds)) :
    FnG P w K mg base 2 f fd ["thing", "least", "most"] (spD K [.S, .S, .S] sd) := by
  refine fn_dm (N := ["thing", "least", "most"]) F sc_is_between rfl hv fun cdv A outer s H0 vs E O H hg hr => ?_
  have sc := sc_is_between
  unfold m_is_between
  exact ⟨_, (ds_one (ds_ret (de_and (de_call F_is_integer hg (hr.mono (by decide)) (by rfl) g_is_integer k_is_integer b_is_integer (da_cons (de_var 0 (pv 0)) da_nil)) (de_one (de_chain2 (pe_chain op_le op_le) (de_var 1 (pv 1)) (de_var 0 (pv 0)) (de_var 2 (pv 2)))))))⟩
/-- is_size(thing) -/
def m_is_size (sd_is_between : DSp) : DTS :=
    (mRet (mCall [.S, .S, .S] sd_is_between (mCons (mVar 0) (mCons (mC (.int 2)) (mCons (mC (.int 12)) mNil)))))
set_option maxHeartbeats 4000000 in
theorem walk_is_size {f : Addr} {fd : FuncData} (F : Fun K "is_size" "is_size" s_is_size f fd) {sd_is_between : DSp}
    {f_is_between : Addr} {fd_is_between : FuncData} (F_is_between : FnG P w K mg base 2 f_is_between fd_is_between ["thing", "least", "most"] (spD K [.S, .S, .S] sd_is_between)) (g_is_between : mg "is_between" = some (.ref f_is_between)) (k_is_between : PySem.W.keepIn K (.ref f_is_between) = true) (b_is_between : Binds K fd_is_between ["thing", "least", "most"] []) {t_MOST_PLACES : Tok} (g_MOST_PLACES : mg "MOST_PLACES" = some (.int 12 t_MOST_PLACES))
    {sd : DSp} (hv : ∀ ds Qd Ed, ds.length = 1 → sd ds Qd Ed → m_is_size sd_is_between (endsD [.S] Qd) (startD ["thing"] [.S] ds)) :
    FnG P w K mg base 3 f fd ["thing"] (spD K [.S] sd) := by
  refine fn_dm (N := ["thing"]) F sc_is_size rfl hv fun cdv A outer s H0 vs E O H hg hr => ?_
  have sc := sc_is_size
  unfold m_is_size
  exact ⟨_, (ds_one (ds_ret (de_call F_is_between hg (hr.mono (by decide)) (by rfl) g_is_between k_is_between b_is_between (da_cons (de_var 0 (pv 0)) (da_cons de_int (da_cons (de_globI (pe_glob (by rfl) g_MOST_PLACES ⟨_, rfl⟩)) da_nil))))))⟩
/-- Ring.__init__(self, ranks) -/
def m_Ring___init__ (C_Ring C_Wrong : Addr) (sd_is_integer : DSp) (sd_is_size : DSp) (Wd : Dwx) : DTS :=
    (mSeqS (mIfS (mOr (mNot (mTest (mIsiX C_Ring "list" (mVar 1)))) (mOr (mNot (mTest (mCall [.S] sd_is_size (mCons (mCB lenD (mCons (mVar 1) mNil)) mNil)))) (mNot (mTest (mCB allD (mCons (mComp (mSeq (mVar 1)) (mgName 2) mYes (mCall [.S] sd_is_integer (mCons (mVar 2) mNil)) [2]) mNil)))))) (mRaise Wd "Wrong" ["place"] (mCons (mC (.int 0)) mNil)) mNext)
    (mSetF C_Ring "rank_list" (mVar 0) (mCB listD (mCons (mVar 1) mNil))))
set_option maxHeartbeats 4000000 in
theorem walk_Ring___init__ {f : Addr} {fd : FuncData} (F : Fun K "__init__" "Ring.__init__" s_Ring___init__ f fd) {C_Ring C_Wrong : Addr} {sd_is_integer : DSp} {sd_is_size : DSp}
    {f_is_integer : Addr} {fd_is_integer : FuncData} (F_is_integer : FnG P w K mg base 1 f_is_integer fd_is_integer ["thing"] (spD K [.S] sd_is_integer)) (g_is_integer : mg "is_integer" = some (.ref f_is_integer)) (k_is_integer : PySem.W.keepIn K (.ref f_is_integer) = true) (b_is_integer : Binds K fd_is_integer ["thing"] [])
    {f_is_size : Addr} {fd_is_size : FuncData} (F_is_size : FnG P w K mg base 3 f_is_size fd_is_size ["thing"] (spD K [.S] sd_is_size)) (g_is_size : mg "is_size" = some (.ref f_is_size)) (k_is_size : PySem.W.keepIn K (.ref f_is_size) = true) (b_is_size : Binds K fd_is_size ["thing"] []) (n_Ring_rank_list : NoAttr K C_Ring "rank_list") (cl_Ring : Cls K C_Ring) (in_Ring : InsD K C_Ring) (kx_Ring_list : PySem.W.kitOne K (.ref C_Ring) (.type "list") = some false) {f_Wrong___init__ : Addr} {fd_Wrong___init__ : FuncData} (F_Wrong___init__ : FnG P w K mg base 1 f_Wrong___init__ fd_Wrong___init__ ["self", "place"] (spXI K ["place"])) (b_Wrong___init__ : Binds K fd_Wrong___init__ ["self", "place"] []) (xc_Wrong : XcK K C_Wrong f_Wrong___init__ ["place"]) (xn_Wrong : XNm K "Wrong" C_Wrong) (g_Wrong : mg "Wrong" = some (.ref C_Wrong)) (z_list : mg "list" = none) (z_all : mg "all" = none) (z_len : mg "len" = none) (z_isinstance : mg "isinstance" = none)
    {sd : DSp} (hv : ∀ ds Qd Ed, ds.length = 2 → sd ds Qd Ed → m_Ring___init__ C_Ring C_Wrong sd_is_integer sd_is_size (wEnd [.M, .S] Ed) (endsD [.M, .S] Qd) (startD ["self", "ranks", "rank"] [.M, .S] ds)) :
    FnG P w K mg base 4 f fd ["self", "ranks"] (spD K [.M, .S] sd) := by
  refine fn_dx (N := ["self", "ranks", "rank"]) F sc_Ring___init__ rfl hv fun cdv A outer s H0 vs E O Wd hg hr po tk wl => ?_
  have sc := sc_Ring___init__
  unfold m_Ring___init__
  exact ⟨_, (ds_cons (ds_if (dw_pt (dw_or (dt_not (dt_val (de_isiX (T := "list") in_Ring kx_Ring_list (by simp) (by rfl) z_isinstance (de_var 1 (pv 1)) (pe_bltn (by rfl) z_list (by decide +kernel) rfl)))) (dw_or (dt_not (dt_val (de_call F_is_size hg (hr.mono (by decide)) (by rfl) g_is_size k_is_size b_is_size (da_cons (de_len (by rfl) z_len (da_cons (de_var 1 (pv 1)) da_nil)) da_nil)))) (dw_or1 (dt_not (dt_val (de_all rfl (by rfl) z_all (da_cons (de_comp (own := [("rank", 2)]) ⟨rfl, sc.nd, (di_seq (de_var 1 (pv 1))), blkOk_by (own := [("rank", 2)]) (N := ["self", "ranks", "rank"]) (sc := defScope s_Ring___init__) (by decide +kernel), (fun _ _ _ _ _ _ => (dg_name 2 (pg_name (i := 2) sc.nd rfl (by first | exact Or.inl rfl | exact Or.inr rfl)))), (own_name (by simp)), mono_name, (fun _ _ _ _ _ _ => df_nil), (fun _ _ _ _ _ _ => (de_call F_is_integer hg (hr.mono (by decide)) (by rfl) g_is_integer k_is_integer b_is_integer (da_cons (de_var 2 (pv 2)) da_nil)))⟩) da_nil)))))))) (ds_one (ds_raise (n := "Wrong") (fs := ["place"]) rfl tk wl (fun h => pmk_x xc_Wrong F_Wrong___init__ hg (hr.mono (by decide)) b_Wrong___init__ (by rfl) g_Wrong h.pa) (da_cons de_int da_nil) xn_Wrong)) ds_nil)
    (ds_one (ds_fld cl_Ring n_Ring_rank_list (de_var 0 (pv 0)) (de_list (by rfl) z_list (da_cons (de_var 1 (pv 1)) da_nil)))))⟩
/-- Ring.ranks(self) -/
def m_Ring_ranks (C_Ring : Addr)  : DTS :=
    (mRet (mCB listD (mCons (mFld C_Ring "rank_list" (mVar 0)) mNil)))
set_option maxHeartbeats 4000000 in
theorem walk_Ring_ranks {f : Addr} {fd : FuncData} (F : Fun K "ranks" "Ring.ranks" s_Ring_ranks f fd) {C_Ring : Addr} (n_Ring_rank_list : NoAttr K C_Ring "rank_list") (cl_Ring : Cls K C_Ring) (z_list : mg "list" = none)
    {sd : DSp} (hv : ∀ ds Qd Ed, ds.length = 1 → sd ds Qd Ed → m_Ring_ranks C_Ring (endsD [.S] Qd) (startD ["self"] [.S] ds)) :
    FnG P w K mg base 1 f fd ["self"] (spD K [.S] sd) := by
  refine fn_dm (N := ["self"]) F sc_Ring_ranks rfl hv fun cdv A outer s H0 vs E O H hg hr => ?_
  have sc := sc_Ring_ranks
  unfold m_Ring_ranks
  exact ⟨_, (ds_one (ds_ret (de_list (by rfl) z_list (da_cons (de_fld cl_Ring n_Ring_rank_list (de_var 0 (pv 0))) da_nil))))⟩
/-- Ring.__repr__(self) -/
def m_Ring___repr__ (C_Ring : Addr)  : DTS :=
    (mRet (mJoined [(mC (.str "Ring(")), (mFmt (mFld C_Ring "rank_list" (mVar 0))), (mC (.str ")"))]))
set_option maxHeartbeats 4000000 in
theorem walk_Ring___repr__ {f : Addr} {fd : FuncData} (F : Fun K "__repr__" "Ring.__repr__" s_Ring___repr__ f fd) {C_Ring : Addr} (n_Ring_rank_list : NoAttr K C_Ring "rank_list") (cl_Ring : Cls K C_Ring)
    {sd : DSp} (hv : ∀ ds Qd Ed, ds.length = 1 → sd ds Qd Ed → m_Ring___repr__ C_Ring (endsD [.S] Qd) (startD ["self"] [.S] ds)) :
    FnG P w K mg base 1 f fd ["self"] (spD K [.S] sd) := by
  refine fn_dm (N := ["self"]) F sc_Ring___repr__ rfl hv fun cdv A outer s H0 vs E O H hg hr => ?_
  have sc := sc_Ring___repr__
  unfold m_Ring___repr__
  exact ⟨_, (ds_one (ds_ret (de_joined (DJ.cons de_str (DJ.cons (de_fmt hg (room100 hr) (de_fld cl_Ring n_Ring_rank_list (de_var 0 (pv 0)))) (DJ.cons de_str DJ.nil))))))⟩
/-- _law_bag(_law_script) -/
def m_law_bag  : DTS :=
    (mRet (mLst (mCons (mC (.int 0)) (mCons (mC (.int 1234567891)) (mCons (mC (.int 0)) (mCons (mComp (mSeq (mSl slD (mVar 0) mNoP (mPart (mC (.int 63))))) (mgName 1) mYes (mCB absD (mCons (mVar 1) mNil)) [1]) mNil))))))
set_option maxHeartbeats 4000000 in
theorem walk_law_bag {f : Addr} {fd : FuncData} (F : Fun K "_law_bag" "_law_bag" s_law_bag f fd) (z_abs : mg "abs" = none)
    {sd : DSp} (hv : ∀ ds Qd Ed, ds.length = 1 → sd ds Qd Ed → m_law_bag (endsD [.S] Qd) (startD ["_law_script", "_law_cell"] [.S] ds)) :
    FnG P w K mg base 1 f fd ["_law_script"] (spD K [.S] sd) := by
  refine fn_dm (N := ["_law_script", "_law_cell"]) F sc_law_bag rfl hv fun cdv A outer s H0 vs E O H hg hr => ?_
  have sc := sc_law_bag
  unfold m_law_bag
  exact ⟨_, (ds_one (ds_ret (de_lst (da_cons de_int (da_cons de_int (da_cons de_int (da_cons (de_comp (own := [("_law_cell", 1)]) ⟨rfl, sc.nd, (di_seq (de_sl (de_var 0 (pv 0)) do_none (do_some de_int))), blkOk_by (own := [("_law_cell", 1)]) (N := ["_law_script", "_law_cell"]) (sc := defScope s_law_bag) (by decide +kernel), (fun _ _ _ _ _ _ => (dg_name 1 (pg_name (i := 1) sc.nd rfl (by first | exact Or.inl rfl | exact Or.inr rfl)))), (own_name (by simp)), mono_name, (fun _ _ _ _ _ _ => df_nil), (fun _ _ _ _ _ _ => (de_abs (by rfl) z_abs (da_cons (de_var 1 (pv 1)) da_nil)))⟩) da_nil)))))))⟩
/-- _law_take(_law_bag_here, _law_many) -/
def m_law_take  : DTS :=
    (mSeqS (mIfS (mTest (mOp eqD (mOp ixD (mVar 0) (mC (.int 0))) (mC (.int 0)))) (mSeqS (mSet 4 (mC (.int 0)))
    (mSeqS (mIfS (mTest (mOp ltD (mOp ixD (mVar 0) (mC (.int 2))) (mCB lenD (mCons (mOp ixD (mVar 0) (mC (.int 3))) mNil)))) (mSet 4 (mOp ixD (mOp ixD (mVar 0) (mC (.int 3))) (mOp ixD (mVar 0) (mC (.int 2))))) mNext)
    (mSeqS (mAugS (mVar 0) (mC (.int 2)) (mC (.int 1)) addI)
    (mSeqS (mIfS (mTest (mOp geD (mVar 4) (mC (.int 1000000000000000000)))) (mAsg (mVar 4) (mgSub (mVar 0) (mC (.int 0)) stD)) mNext)
    (mAsg (mOp modD (mOp addD (mOp addD (mOp mulD (mOp ixD (mVar 0) (mC (.int 1))) (mC (.int 48271))) (mOp modD (mVar 4) (mC (.int 2147483647)))) (mOp mulD (mC (.int 7919)) (mOp ixD (mVar 0) (mC (.int 2))))) (mC (.int 2147483647))) (mgSub (mVar 0) (mC (.int 1)) stD)))))) mNext)
    (mSeqS (mIfS (mTest (mOp gtD (mOp ixD (mVar 0) (mC (.int 0))) (mC (.int 0)))) (mSeqS (mSet 5 (mOp modD (mOp ixD (mVar 0) (mC (.int 0))) (mVar 1)))
    (mSeqS (mAsg (mOp fdivD (mOp ixD (mVar 0) (mC (.int 0))) (mVar 1)) (mgSub (mVar 0) (mC (.int 0)) stD))
    (mRet (mVar 5)))) mNext)
    (mSeqS (mSet 2 (mOp modD (mOp mulD (mOp addD (mOp ixD (mVar 0) (mC (.int 1))) (mC (.int 1))) (mC (.int 39373))) (mC (.int 1000000007))))
    (mSeqS (mSet 3 (mOp modD (mOp mulD (mOp modD (mOp mulD (mVar 2) (mVar 2)) (mC (.int 998244353))) (mC (.int 30011))) (mC (.int 998244353))))
    (mSeqS (mIfS (mTest (mOp gtD (mVar 1) (mC (.int 1000000)))) (mRet (mOp modD (mOp addD (mOp mulD (mVar 3) (mC (.int 1000000007))) (mVar 2)) (mVar 1))) mNext)
    (mRet (mOp modD (mOp fdivD (mVar 3) (mC (.int 7))) (mVar 1))))))))
set_option maxHeartbeats 4000000 in
theorem walk_law_take {f : Addr} {fd : FuncData} (F : Fun K "_law_take" "_law_take" s_law_take f fd) (z_len : mg "len" = none)
    {sd : DSp} (hv : ∀ ds Qd Ed, ds.length = 2 → sd ds Qd Ed → m_law_take (endsD [.M, .S] Qd) (startD ["_law_bag_here", "_law_many", "_law_first", "_law_second", "_law_cell", "_law_value"] [.M, .S] ds)) :
    FnG P w K mg base 1 f fd ["_law_bag_here", "_law_many"] (spD K [.M, .S] sd) := by
  refine fn_dm (N := ["_law_bag_here", "_law_many", "_law_first", "_law_second", "_law_cell", "_law_value"]) F sc_law_take rfl hv fun cdv A outer s H0 vs E O H hg hr => ?_
  have sc := sc_law_take
  unfold m_law_take
  exact ⟨_, (ds_cons (ds_if (dt_eq hr.units (de_ix (de_var 0 (pv 0)) de_int) de_int) (ds_cons (ds_set de_int (fun h => ps_set (i := 4) sc.nd rfl (by first | exact Or.inl rfl | exact Or.inr rfl) h))
    (ds_cons (ds_if (dt_cmp op_lt sim_lt (de_ix (de_var 0 (pv 0)) de_int) (de_len (by rfl) z_len (da_cons (de_ix (de_var 0 (pv 0)) de_int) da_nil)) (nomark _)) (ds_one (ds_set (de_ix (de_ix (de_var 0 (pv 0)) de_int) (de_ix (de_var 0 (pv 0)) de_int)) (fun h => ps_set (i := 4) sc.nd rfl (by first | exact Or.inl rfl | exact Or.inr rfl) h))) ds_nil)
    (ds_cons (ds_augSA (fun a b c => ps_augS a b get_listG c ip_add set_list) (de_var 0 (pv 0)) de_int de_int)
    (ds_cons (ds_if (dt_cmp op_ge sim_ge (de_var 4 (pv 4)) de_int (nomark _)) (ds_one (ds_asg (de_var 4 (pv 4)) (dg_sub (fun a b => pg_sub a b set_list) (de_var 0 (pv 0)) de_int))) ds_nil)
    (ds_one (ds_asg (de_mod (de_add (de_add (de_mul (de_ix (de_var 0 (pv 0)) de_int) de_int) (de_mod (de_var 4 (pv 4)) de_int)) (de_mul de_int (de_ix (de_var 0 (pv 0)) de_int))) de_int) (dg_sub (fun a b => pg_sub a b set_list) (de_var 0 (pv 0)) de_int))))))) ds_nil)
    (ds_cons (ds_if (dt_cmp op_gt sim_gt (de_ix (de_var 0 (pv 0)) de_int) de_int (nomark _)) (ds_cons (ds_set (de_mod (de_ix (de_var 0 (pv 0)) de_int) (de_var 1 (pv 1))) (fun h => ps_set (i := 5) sc.nd rfl (by first | exact Or.inl rfl | exact Or.inr rfl) h))
    (ds_cons (ds_asg (de_fdiv (de_ix (de_var 0 (pv 0)) de_int) (de_var 1 (pv 1))) (dg_sub (fun a b => pg_sub a b set_list) (de_var 0 (pv 0)) de_int))
    (ds_one (ds_ret (de_var 5 (pv 5)))))) ds_nil)
    (ds_cons (ds_set (de_mod (de_mul (de_add (de_ix (de_var 0 (pv 0)) de_int) de_int) de_int) de_int) (fun h => ps_set (i := 2) sc.nd rfl (by first | exact Or.inl rfl | exact Or.inr rfl) h))
    (ds_cons (ds_set (de_mod (de_mul (de_mod (de_mul (de_var 2 (pv 2)) (de_var 2 (pv 2))) de_int) de_int) de_int) (fun h => ps_set (i := 3) sc.nd rfl (by first | exact Or.inl rfl | exact Or.inr rfl) h))
    (ds_cons (ds_if (dt_cmp op_gt sim_gt (de_var 1 (pv 1)) de_int (nomark _)) (ds_one (ds_ret (de_mod (de_add (de_mul (de_var 3 (pv 3)) de_int) (de_var 2 (pv 2))) (de_var 1 (pv 1))))) ds_nil)
    (ds_one (ds_ret (de_mod (de_fdiv (de_var 3 (pv 3)) de_int) (de_var 1 (pv 1))))))))))⟩
/-- _law_alike(_law_found, _law_due) -/
def m_law_alike  : DTS :=
    (mRet (mAndV (mOp eqD (mVar 0) (mVar 1)) (mOp eqD (mCB reprD (mCons (mVar 0) mNil)) (mCB reprD (mCons (mVar 1) mNil)))))
set_option maxHeartbeats 4000000 in
theorem walk_law_alike {f : Addr} {fd : FuncData} (F : Fun K "_law_alike" "_law_alike" s_law_alike f fd) (z_repr : mg "repr" = none)
    {sd : DSp} (hv : ∀ ds Qd Ed, ds.length = 2 → sd ds Qd Ed → m_law_alike (endsD [.S, .S] Qd) (startD ["_law_found", "_law_due"] [.S, .S] ds)) :
    FnG P w K mg base 1 f fd ["_law_found", "_law_due"] (spD K [.S, .S] sd) := by
  refine fn_dm (N := ["_law_found", "_law_due"]) F sc_law_alike rfl hv fun cdv A outer s H0 vs E O H hg hr => ?_
  have sc := sc_law_alike
  unfold m_law_alike
  exact ⟨_, (ds_one (ds_ret (de_and (de_eq hr.units (de_var 0 (pv 0)) (de_var 1 (pv 1))) (de_one (de_eq hr.units (de_repr hg (room100 hr) (by rfl) z_repr (da_cons (de_var 0 (pv 0)) da_nil)) (de_repr hg (room100 hr) (by rfl) z_repr (da_cons (de_var 1 (pv 1)) da_nil)))))))⟩
/-- _law_whole(_law_thing) -/
def m_law_whole  : DTS :=
    (mRet (mAndV (mIsi "int" (mVar 0)) (mNotV (mIsi "bool" (mVar 0)))))
set_option maxHeartbeats 4000000 in
theorem walk_law_whole {f : Addr} {fd : FuncData} (F : Fun K "_law_whole" "_law_whole" s_law_whole f fd) (z_isinstance : mg "isinstance" = none) (z_bool : mg "bool" = none) (z_int : mg "int" = none)
    {sd : DSp} (hv : ∀ ds Qd Ed, ds.length = 1 → sd ds Qd Ed → m_law_whole (endsD [.S] Qd) (startD ["_law_thing"] [.S] ds)) :
    FnG P w K mg base 1 f fd ["_law_thing"] (spD K [.S] sd) := by
  refine fn_dm (N := ["_law_thing"]) F sc_law_whole rfl hv fun cdv A outer s H0 vs E O H hg hr => ?_
  have sc := sc_law_whole
  unfold m_law_whole
  exact ⟨_, (ds_one (ds_ret (de_and (de_isi (T := "int") (by simp) (by rfl) z_isinstance (de_var 0 (pv 0)) (pe_bltn (by rfl) z_int (by decide +kernel) rfl)) (de_one (de_not (de_isi (T := "bool") (by simp) (by rfl) z_isinstance (de_var 0 (pv 0)) (pe_bltn (by rfl) z_bool (by decide +kernel) rfl)))))))⟩
/-- _law_some_size(_law_bag_here, _law_most) -/
def m_law_some_size (sd_law_take : DSp) : DTS :=
    (mRet (mOp addD (mC (.int 2)) (mCall [.M, .S] sd_law_take (mCons (mVar 0) (mCons (mOp ixD (mLst (mCons (mOp subD (mCB minD (mCons (mC (.int 4)) (mCons (mVar 1) mNil))) (mC (.int 1))) (mCons (mOp subD (mVar 1) (mC (.int 1))) mNil))) (mCall [.M, .S] sd_law_take (mCons (mVar 0) (mCons (mC (.int 2)) mNil)))) mNil)))))
set_option maxHeartbeats 4000000 in
theorem walk_law_some_size {f : Addr} {fd : FuncData} (F : Fun K "_law_some_size" "_law_some_size" s_law_some_size f fd) {sd_law_take : DSp}
    {f_law_take : Addr} {fd_law_take : FuncData} (F_law_take : FnG P w K mg base 1 f_law_take fd_law_take ["_law_bag_here", "_law_many"] (spD K [.M, .S] sd_law_take)) (g_law_take : mg "_law_take" = some (.ref f_law_take)) (k_law_take : PySem.W.keepIn K (.ref f_law_take) = true) (b_law_take : Binds K fd_law_take ["_law_bag_here", "_law_many"] []) (z_min : mg "min" = none)
    {sd : DSp} (hv : ∀ ds Qd Ed, ds.length = 2 → sd ds Qd Ed → m_law_some_size sd_law_take (endsD [.M, .S] Qd) (startD ["_law_bag_here", "_law_most"] [.M, .S] ds)) :
    FnG P w K mg base 2 f fd ["_law_bag_here", "_law_most"] (spD K [.M, .S] sd) := by
  refine fn_dm (N := ["_law_bag_here", "_law_most"]) F sc_law_some_size rfl hv fun cdv A outer s H0 vs E O H hg hr => ?_
  have sc := sc_law_some_size
  unfold m_law_some_size
  exact ⟨_, (ds_one (ds_ret (de_add de_int (de_call F_law_take hg (hr.mono (by decide)) (by rfl) g_law_take k_law_take b_law_take (da_cons (de_var 0 (pv 0)) (da_cons (de_ix (de_lst (da_cons (de_sub (de_min rfl (by rfl) z_min (da_cons de_int (da_cons (de_var 1 (pv 1)) da_nil))) de_int) (da_cons (de_sub (de_var 1 (pv 1)) de_int) da_nil))) (de_call F_law_take hg (hr.mono (by decide)) (by rfl) g_law_take k_law_take b_law_take (da_cons (de_var 0 (pv 0)) (da_cons de_int da_nil)))) da_nil))))))⟩
/-- _law_ranks(_law_bag_here, _law_size) -/
def m_law_ranks (sd_law_take : DSp) : DTS :=
    (mSeqS (mPar (mPCons (mCall [.M, .S] sd_law_take (mCons (mVar 0) (mCons (mC (.int 6)) mNil))) (mPCons (mLst mNil) mPNil)) (.sh 3 :: .ow 4 :: []))
    (mSeqS (mFor (mRng1 (mCons (mVar 1) mNil)) (mgName 2) (mSeqS (mPar (mPCons (mCall [.M, .S] sd_law_take (mCons (mVar 0) (mCons (mC (.int 3)) mNil))) (mPCons (mOp subD (mCall [.M, .S] sd_law_take (mCons (mVar 0) (mCons (mOp powD (mC (.int 10)) (mC (.int 12))) mNil))) (mOp mulD (mC (.int 5)) (mOp powD (mC (.int 10)) (mC (.int 11))))) mPNil)) (.sh 6 :: .sh 7 :: []))
    (mDrop (mMut appendD (mVar 4) (mCons (mOp ixD (mLst (mCons (mVar 6) (mCons (mOp subD (mOp mulD (mVar 6) (mC (.int 3))) (mC (.int 4))) (mCons (mVar 7) (mCons (mOp subD (mC (.int 0)) (mVar 2)) (mCons (mOp addD (mVar 2) (mVar 6)) (mCons (mOp subD (mOp powD (mC (.int 10)) (mC (.int 39))) (mOp mulD (mVar 2) (mVar 6))) mNil))))))) (mVar 3)) mNil)))))
    (mSeqS (mIfS (mAnd (mTest (mOp eqD (mVar 3) (mC (.int 0)))) (mTest (mOp eqD (mCall [.M, .S] sd_law_take (mCons (mVar 0) (mCons (mC (.int 2)) mNil))) (mC (.int 0))))) (mSetO 4 (mComp (mSeq (mVar 4)) (mgName 8) mYes (mCB intD (mCons (mOp gtD (mVar 8) (mC (.int 0))) mNil)) [8])) mNext)
    (mSeqS (mIfS (mTest (mOp gtD (mVar 3) (mC (.int 1)))) (mSeqS (mSet 5 (mCall [.M, .S] sd_law_take (mCons (mVar 0) (mCons (mVar 1) mNil))))
    (mSetO 4 (mOp addD (mSl slD (mVar 4) (mPart (mVar 5)) mNoP) (mSl slD (mVar 4) mNoP (mPart (mVar 5)))))) mNext)
    (mRet (mVar 4))))))
set_option maxHeartbeats 4000000 in
theorem walk_law_ranks {f : Addr} {fd : FuncData} (F : Fun K "_law_ranks" "_law_ranks" s_law_ranks f fd) {sd_law_take : DSp}
    {f_law_take : Addr} {fd_law_take : FuncData} (F_law_take : FnG P w K mg base 1 f_law_take fd_law_take ["_law_bag_here", "_law_many"] (spD K [.M, .S] sd_law_take)) (g_law_take : mg "_law_take" = some (.ref f_law_take)) (k_law_take : PySem.W.keepIn K (.ref f_law_take) = true) (b_law_take : Binds K fd_law_take ["_law_bag_here", "_law_many"] []) (z_int : mg "int" = none) (z_range : mg "range" = none)
    {sd : DSp} (hv : ∀ ds Qd Ed, ds.length = 2 → sd ds Qd Ed → m_law_ranks sd_law_take (endsD [.M, .S] Qd) (startD ["_law_bag_here", "_law_size", "_law_place", "_law_way", "_law_found", "_law_spot", "_law_few", "_law_great", "_law_rank"] [.M, .S] ds)) :
    FnG P w K mg base 2 f fd ["_law_bag_here", "_law_size"] (spD K [.M, .S] sd) := by
  refine fn_dm (N := ["_law_bag_here", "_law_size", "_law_place", "_law_way", "_law_found", "_law_spot", "_law_few", "_law_great", "_law_rank"]) F sc_law_ranks rfl hv fun cdv A outer s H0 vs E O H hg hr => ?_
  have sc := sc_law_ranks
  unfold m_law_ranks
  exact ⟨_, (ds_cons (ds_par2 (fun h => ps_par (i := 3) (j := 4) rfl sc.nd rfl rfl (by decide) rfl rfl h (by rfl)) (dp_cons (de_call F_law_take hg (hr.mono (by decide)) (by rfl) g_law_take k_law_take b_law_take (da_cons (de_var 0 (pv 0)) (da_cons de_int da_nil))) (fun _ => (dp_cons (de_lst da_nil) (fun _ => dp_nil)))) (sim_tsh (sim_tow sim_tnil 4) 3))
    (ds_cons (ds_for PassesOwn.never rfl (di_rng1 (by rfl) z_range (da_cons (de_var 1 (pv 1)) da_nil)) (fun _ => (dg_name 2 (pg_name (i := 2) sc.nd rfl (by first | exact Or.inl rfl | exact Or.inr rfl)))) (fun _ => (ds_cons (ds_par2 (fun h => ps_par (i := 6) (j := 7) rfl sc.nd rfl rfl (by decide) rfl rfl h (by rfl)) (dp_cons (de_call F_law_take hg (hr.mono (by decide)) (by rfl) g_law_take k_law_take b_law_take (da_cons (de_var 0 (pv 0)) (da_cons de_int da_nil))) (fun _ => (dp_cons (de_sub (de_call F_law_take hg (hr.mono (by decide)) (by rfl) g_law_take k_law_take b_law_take (da_cons (de_var 0 (pv 0)) (da_cons (de_pow de_int de_int) da_nil))) (de_mul de_int (de_pow de_int de_int))) (fun _ => dp_nil)))) (sim_tsh (sim_tsh sim_tnil 7) 6))
    (ds_one (ds_expr (de_append (fun x y => pe_bm PySem.F.plainAttrs_list PySem.F.slot_list_append PySem.F.type_list_append mt_append x y) (de_var 4 (pv 4)) (da_cons (de_ix (de_lst (da_cons (de_var 6 (pv 6)) (da_cons (de_sub (de_mul (de_var 6 (pv 6)) de_int) de_int) (da_cons (de_var 7 (pv 7)) (da_cons (de_sub de_int (de_var 2 (pv 2))) (da_cons (de_add (de_var 2 (pv 2)) (de_var 6 (pv 6))) (da_cons (de_sub (de_pow de_int de_int) (de_mul (de_var 2 (pv 2)) (de_var 6 (pv 6)))) da_nil))))))) (de_var 3 (pv 3))) da_nil)))))))
    (ds_cons (ds_if (dw_pt (dw_and (dt_eq hr.units (de_var 3 (pv 3)) de_int) (dw_and1 (dt_eq hr.units (de_call F_law_take hg (hr.mono (by decide)) (by rfl) g_law_take k_law_take b_law_take (da_cons (de_var 0 (pv 0)) (da_cons de_int da_nil))) de_int)))) (ds_one (ds_setCO (i := 4) (own := [("_law_rank", 8)]) ⟨rfl, sc.nd, (di_seq (de_var 4 (pv 4))), blkOk_by (own := [("_law_rank", 8)]) (N := ["_law_bag_here", "_law_size", "_law_place", "_law_way", "_law_found", "_law_spot", "_law_few", "_law_great", "_law_rank"]) (sc := defScope s_law_ranks) (by decide +kernel), (fun _ _ _ _ _ _ => (dg_name 8 (pg_name (i := 8) sc.nd rfl (by first | exact Or.inl rfl | exact Or.inr rfl)))), (own_name (by simp)), mono_name, (fun _ _ _ _ _ _ => df_nil), (fun _ _ _ _ _ _ => (de_intc (by rfl) z_int (da_cons (de_gt (de_var 8 (pv 8)) de_int) da_nil)))⟩ rfl rfl (sw_true rfl rfl rfl (by decide +kernel)))) ds_nil)
    (ds_cons (ds_if (dt_cmp op_gt sim_gt (de_var 3 (pv 3)) de_int (nomark _)) (ds_cons (ds_set (de_call F_law_take hg (hr.mono (by decide)) (by rfl) g_law_take k_law_take b_law_take (da_cons (de_var 0 (pv 0)) (da_cons (de_var 1 (pv 1)) da_nil))) (fun h => ps_set (i := 5) sc.nd rfl (by first | exact Or.inl rfl | exact Or.inr rfl) h))
    (ds_one (ds_setO (de_add (de_sl (de_var 4 (pv 4)) (do_some (de_var 5 (pv 5))) do_none) (de_sl (de_var 4 (pv 4)) do_none (do_some (de_var 5 (pv 5))))) (fun h => ps_set (i := 4) sc.nd rfl (by first | exact Or.inl rfl | exact Or.inr rfl) h)))) ds_nil)
    (ds_one (ds_ret (de_var 4 (pv 4))))))))⟩
/-- _law_odd(_law_bag_here, _law_size) -/
def m_law_odd (sd_law_take : DSp) : DTS :=
    (mSeqS (mSet 2 (mLst (mCons (mC .non) (mCons (mC (.bl true)) (mCons (mC (.bl false)) (mCons (mC (.str "0")) (mCons (mC (.str "a")) (mCons (mC (.str "")) (mCons (mTup mNil) (mCons (mLst mNil) (mCons mDict0 (mCons (mTup (mCons (mC (.int 1)) mNil)) (mCons (mLst (mCons (mC (.int 0)) mNil)) (mCons (mUn negD (mC (.int 1))) mNil))))))))))))))
    (mSeqS (mSet 2 (mOp addD (mVar 2) (mLst (mCons (mVar 1) (mCons (mOp subD (mVar 1) (mC (.int 1))) (mCons (mC (.int 0)) (mCons (mC (.int 13)) (mCons (mOp powD (mC (.int 10)) (mC (.int 39))) (mCons (mLst (mCons (mC .non) mNil)) (mCons (mLst (mCons (mLst mNil) mNil)) mNil))))))))))
    (mRet (mOp ixD (mVar 2) (mCall [.M, .S] sd_law_take (mCons (mVar 0) (mCons (mC (.int 19)) mNil)))))))
set_option maxHeartbeats 4000000 in
theorem walk_law_odd {f : Addr} {fd : FuncData} (F : Fun K "_law_odd" "_law_odd" s_law_odd f fd) {sd_law_take : DSp}
    {f_law_take : Addr} {fd_law_take : FuncData} (F_law_take : FnG P w K mg base 1 f_law_take fd_law_take ["_law_bag_here", "_law_many"] (spD K [.M, .S] sd_law_take)) (g_law_take : mg "_law_take" = some (.ref f_law_take)) (k_law_take : PySem.W.keepIn K (.ref f_law_take) = true) (b_law_take : Binds K fd_law_take ["_law_bag_here", "_law_many"] [])
    {sd : DSp} (hv : ∀ ds Qd Ed, ds.length = 2 → sd ds Qd Ed → m_law_odd sd_law_take (endsD [.M, .S] Qd) (startD ["_law_bag_here", "_law_size", "_law_some"] [.M, .S] ds)) :
    FnG P w K mg base 2 f fd ["_law_bag_here", "_law_size"] (spD K [.M, .S] sd) := by
  refine fn_dm (N := ["_law_bag_here", "_law_size", "_law_some"]) F sc_law_odd rfl hv fun cdv A outer s H0 vs E O H hg hr => ?_
  have sc := sc_law_odd
  unfold m_law_odd
  exact ⟨_, (ds_cons (ds_set (de_lst (da_cons de_non (da_cons de_bl (da_cons de_bl (da_cons de_str (da_cons de_str (da_cons de_str (da_cons (de_tup da_nil) (da_cons (de_lst da_nil) (da_cons de_dict0 (da_cons (de_tup (da_cons de_int da_nil)) (da_cons (de_lst (da_cons de_int da_nil)) (da_cons (de_neg de_int) da_nil))))))))))))) (fun h => ps_set (i := 2) sc.nd rfl (by first | exact Or.inl rfl | exact Or.inr rfl) h))
    (ds_cons (ds_set (de_add (de_var 2 (pv 2)) (de_lst (da_cons (de_var 1 (pv 1)) (da_cons (de_sub (de_var 1 (pv 1)) de_int) (da_cons de_int (da_cons de_int (da_cons (de_pow de_int de_int) (da_cons (de_lst (da_cons de_non da_nil)) (da_cons (de_lst (da_cons (de_lst da_nil) da_nil)) da_nil))))))))) (fun h => ps_set (i := 2) sc.nd rfl (by first | exact Or.inl rfl | exact Or.inr rfl) h))
    (ds_one (ds_ret (de_ix (de_var 2 (pv 2)) (de_call F_law_take hg (hr.mono (by decide)) (by rfl) g_law_take k_law_take b_law_take (da_cons (de_var 0 (pv 0)) (da_cons de_int da_nil))))))))⟩
/-- _law_spoiled(_law_bag_here, _law_thing) -/
def m_law_spoiled (C_Ring : Addr) (sd_law_odd : DSp) (sd_law_take : DSp) (sd_Ring___init__ : DSp) : DTS :=
    (mSeqS (mIfS (mOr (mNot (mTest (mIsiX C_Ring "list" (mVar 1)))) (mOr (mTest (mOp (empD id) (mVar 1) (mLst mNil))) (mTest (mOp eqD (mCall [.M, .S] sd_law_take (mCons (mVar 0) (mCons (mC (.int 10)) mNil))) (mC (.int 0)))))) (mRet (mOp ixD (mLst (mCons (mCall [.M, .S] sd_law_odd (mCons (mVar 0) (mCons (mC (.int 12)) mNil))) (mCons (mOp mulD (mLst (mCons (mC (.int 0)) mNil)) (mC (.int 9980))) (mCons (mLst (mCons (mLst (mCons (mLst (mCons (mLst (mCons (mLst (mCons (mLst (mCons (mLst (mCons (mC (.int 0)) mNil)) mNil)) mNil)) mNil)) mNil)) mNil)) mNil)) (mCons (mC (.str "abc")) (mCons (mLock (mDictI [(0, 1), (1, 2)])) (mCons (mMake C_Ring [.S] sd_Ring___init__ (mCons (mLst (mCons (mC (.int 1)) (mCons (mC (.int 2)) mNil))) mNil)) mNil))))))) (mCall [.M, .S] sd_law_take (mCons (mVar 0) (mCons (mC (.int 6)) mNil))))) mNext)
    (mSeqS (mPar (mPCons (mCall [.M, .S] sd_law_take (mCons (mVar 0) (mCons (mCB lenD (mCons (mVar 1) mNil)) mNil))) (mPCons (mCall [.M, .S] sd_law_take (mCons (mVar 0) (mCons (mC (.int 6)) mNil))) (mPCons (mCB listD (mCons (mVar 1) mNil)) mPNil))) (.sh 2 :: .sh 3 :: .sh 4 :: []))
    (mSeqS (mIfS (mTest (mOp eqD (mVar 3) (mC (.int 0)))) (mRet (mOp addD (mSl slD (mVar 4) mNoP (mPart (mVar 2))) (mSl slD (mVar 4) (mPart (mOp addD (mVar 2) (mC (.int 1)))) mNoP))) mNext)
    (mSeqS (mIfS (mTest (mOp eqD (mVar 3) (mC (.int 1)))) (mRet (mOp addD (mOp addD (mSl slD (mVar 4) mNoP (mPart (mVar 2))) (mOp mulD (mLst (mCons (mOp ixD (mVar 4) (mVar 2)) mNil)) (mOp addD (mC (.int 1)) (mCall [.M, .S] sd_law_take (mCons (mVar 0) (mCons (mC (.int 12)) mNil)))))) (mSl slD (mVar 4) (mPart (mVar 2)) mNoP))) mNext)
    (mSeqS (mIfS (mTest (mOp eqD (mVar 3) (mC (.int 2)))) (mRet (mCB tupleD (mCons (mVar 4) mNil))) mNext)
    (mSeqS (mIfS (mTest (mOp eqD (mVar 3) (mC (.int 3)))) (mRet (mOp addD (mOp addD (mSl slD (mVar 4) mNoP (mPart (mVar 2))) (mLst (mCons (mCall [.M, .S] sd_law_odd (mCons (mVar 0) (mCons (mC (.int 12)) mNil))) mNil))) (mSl slD (mVar 4) (mPart (mOp addD (mVar 2) (mC (.int 1)))) mNoP))) mNext)
    (mSeqS (mIfS (mTest (mOp eqD (mVar 3) (mC (.int 4)))) (mRet (mOp addD (mOp addD (mSl slD (mVar 4) mNoP (mPart (mVar 2))) (mLst (mCons (mLst (mCons (mOp ixD (mVar 4) (mVar 2)) mNil)) mNil))) (mSl slD (mVar 4) (mPart (mOp addD (mVar 2) (mC (.int 1)))) mNoP))) mNext)
    (mRet (mSl slD (mVar 4) mNoP (mPart (mC (.int 1))))))))))))
set_option maxHeartbeats 4000000 in
theorem walk_law_spoiled {f : Addr} {fd : FuncData} (F : Fun K "_law_spoiled" "_law_spoiled" s_law_spoiled f fd) {C_Ring : Addr} {sd_law_odd : DSp} {sd_law_take : DSp} {sd_Ring___init__ : DSp}
    {f_law_odd : Addr} {fd_law_odd : FuncData} (F_law_odd : FnG P w K mg base 2 f_law_odd fd_law_odd ["_law_bag_here", "_law_size"] (spD K [.M, .S] sd_law_odd)) (g_law_odd : mg "_law_odd" = some (.ref f_law_odd)) (k_law_odd : PySem.W.keepIn K (.ref f_law_odd) = true) (b_law_odd : Binds K fd_law_odd ["_law_bag_here", "_law_size"] [])
    {f_law_take : Addr} {fd_law_take : FuncData} (F_law_take : FnG P w K mg base 1 f_law_take fd_law_take ["_law_bag_here", "_law_many"] (spD K [.M, .S] sd_law_take)) (g_law_take : mg "_law_take" = some (.ref f_law_take)) (k_law_take : PySem.W.keepIn K (.ref f_law_take) = true) (b_law_take : Binds K fd_law_take ["_law_bag_here", "_law_many"] [])
    {f_Ring___init__ : Addr} {fd_Ring___init__ : FuncData} (F_Ring___init__ : FnG P w K mg base 4 f_Ring___init__ fd_Ring___init__ ["self", "ranks"] (spD K [.M, .S] sd_Ring___init__)) (b_Ring___init__ : Binds K fd_Ring___init__ ["self", "ranks"] []) (in_Ring : InsD K C_Ring) (kx_Ring_list : PySem.W.kitOne K (.ref C_Ring) (.type "list") = some false) (mk_Ring : Mk K C_Ring f_Ring___init__) (g_Ring : mg "Ring" = some (.ref C_Ring)) (z_tuple : mg "tuple" = none) (z_list : mg "list" = none) (z_len : mg "len" = none) (z_isinstance : mg "isinstance" = none)
    {sd : DSp} (hv : ∀ ds Qd Ed, ds.length = 2 → sd ds Qd Ed → m_law_spoiled C_Ring sd_law_odd sd_law_take sd_Ring___init__ (endsD [.M, .S] Qd) (startD ["_law_bag_here", "_law_thing", "_law_at", "_law_way", "_law_several"] [.M, .S] ds)) :
    FnG P w K mg base 6 f fd ["_law_bag_here", "_law_thing"] (spD K [.M, .S] sd) := by
  refine fn_dm (N := ["_law_bag_here", "_law_thing", "_law_at", "_law_way", "_law_several"]) F sc_law_spoiled rfl hv fun cdv A outer s H0 vs E O H hg hr => ?_
  have sc := sc_law_spoiled
  unfold m_law_spoiled
  exact ⟨_, (ds_cons (ds_if (dw_pt (dw_or (dt_not (dt_val (de_isiX (T := "list") in_Ring kx_Ring_list (by simp) (by rfl) z_isinstance (de_var 1 (pv 1)) (pe_bltn (by rfl) z_list (by decide +kernel) rfl)))) (dw_or (dt_eqEmp hr.units (de_var 1 (pv 1)) (de_lst da_nil)) (dw_or1 (dt_eq hr.units (de_call F_law_take hg (hr.mono (by decide)) (by rfl) g_law_take k_law_take b_law_take (da_cons (de_var 0 (pv 0)) (da_cons de_int da_nil))) de_int))))) (ds_one (ds_ret (de_ix (de_lst (da_cons (de_call F_law_odd hg (hr.mono (by decide)) (by rfl) g_law_odd k_law_odd b_law_odd (da_cons (de_var 0 (pv 0)) (da_cons de_int da_nil))) (da_cons (de_mul (de_lst (da_cons de_int da_nil)) de_int) (da_cons (de_lst (da_cons (de_lst (da_cons (de_lst (da_cons (de_lst (da_cons (de_lst (da_cons (de_lst (da_cons (de_lst (da_cons de_int da_nil)) da_nil)) da_nil)) da_nil)) da_nil)) da_nil)) da_nil)) (da_cons de_str (da_cons (de_lock (de_dictI (dxi_cons (fun _ => de_int) (fun _ => de_int) (dxi_cons (fun _ => de_int) (fun _ => de_int) dxi_nil)))) (da_cons (de_make mk_Ring F_Ring___init__ hg (hr.mono (by decide)) (by rfl) g_Ring b_Ring___init__ (da_cons (de_lst (da_cons de_int (da_cons de_int da_nil))) da_nil)) da_nil))))))) (de_call F_law_take hg (hr.mono (by decide)) (by rfl) g_law_take k_law_take b_law_take (da_cons (de_var 0 (pv 0)) (da_cons de_int da_nil)))))) ds_nil)
    (ds_cons (ds_par3 (fun h => ps_par3 (i := 2) (j := 3) (l := 4) rfl sc.nd rfl rfl rfl (by decide) (by decide) (by decide) rfl rfl rfl h (by rfl)) (dp_cons (de_call F_law_take hg (hr.mono (by decide)) (by rfl) g_law_take k_law_take b_law_take (da_cons (de_var 0 (pv 0)) (da_cons (de_len (by rfl) z_len (da_cons (de_var 1 (pv 1)) da_nil)) da_nil))) (fun _ => (dp_cons (de_call F_law_take hg (hr.mono (by decide)) (by rfl) g_law_take k_law_take b_law_take (da_cons (de_var 0 (pv 0)) (da_cons de_int da_nil))) (fun _ => (dp_cons (de_list (by rfl) z_list (da_cons (de_var 1 (pv 1)) da_nil)) (fun _ => dp_nil)))))) (sim_tsh (sim_tsh (sim_tsh sim_tnil 4) 3) 2))
    (ds_cons (ds_if (dt_eq hr.units (de_var 3 (pv 3)) de_int) (ds_one (ds_ret (de_add (de_sl (de_var 4 (pv 4)) do_none (do_some (de_var 2 (pv 2)))) (de_sl (de_var 4 (pv 4)) (do_some (de_add (de_var 2 (pv 2)) de_int)) do_none)))) ds_nil)
    (ds_cons (ds_if (dt_eq hr.units (de_var 3 (pv 3)) de_int) (ds_one (ds_ret (de_add (de_add (de_sl (de_var 4 (pv 4)) do_none (do_some (de_var 2 (pv 2)))) (de_mul (de_lst (da_cons (de_ix (de_var 4 (pv 4)) (de_var 2 (pv 2))) da_nil)) (de_add de_int (de_call F_law_take hg (hr.mono (by decide)) (by rfl) g_law_take k_law_take b_law_take (da_cons (de_var 0 (pv 0)) (da_cons de_int da_nil)))))) (de_sl (de_var 4 (pv 4)) (do_some (de_var 2 (pv 2))) do_none)))) ds_nil)
    (ds_cons (ds_if (dt_eq hr.units (de_var 3 (pv 3)) de_int) (ds_one (ds_ret (de_tuple (by rfl) z_tuple (da_cons (de_var 4 (pv 4)) da_nil)))) ds_nil)
    (ds_cons (ds_if (dt_eq hr.units (de_var 3 (pv 3)) de_int) (ds_one (ds_ret (de_add (de_add (de_sl (de_var 4 (pv 4)) do_none (do_some (de_var 2 (pv 2)))) (de_lst (da_cons (de_call F_law_odd hg (hr.mono (by decide)) (by rfl) g_law_odd k_law_odd b_law_odd (da_cons (de_var 0 (pv 0)) (da_cons de_int da_nil))) da_nil))) (de_sl (de_var 4 (pv 4)) (do_some (de_add (de_var 2 (pv 2)) de_int)) do_none)))) ds_nil)
    (ds_cons (ds_if (dt_eq hr.units (de_var 3 (pv 3)) de_int) (ds_one (ds_ret (de_add (de_add (de_sl (de_var 4 (pv 4)) do_none (do_some (de_var 2 (pv 2)))) (de_lst (da_cons (de_lst (da_cons (de_ix (de_var 4 (pv 4)) (de_var 2 (pv 2))) da_nil)) da_nil))) (de_sl (de_var 4 (pv 4)) (do_some (de_add (de_var 2 (pv 2)) de_int)) do_none)))) ds_nil)
    (ds_one (ds_ret (de_sl (de_var 4 (pv 4)) do_none (do_some de_int)))))))))))⟩
/-- _law_is_right(_law_thing) -/
def m_law_is_right (C_Ring : Addr) (sd_law_whole : DSp) : DTS :=
    (mSeqS (mIfS (mOr (mNot (mTest (mIsiX C_Ring "list" (mVar 0)))) (mNot (mTest (mChain (fun i j => decide (i ≤ j)) (fun i j => decide (i ≤ j)) (mC (.int 2)) (mCB lenD (mCons (mVar 0) mNil)) (mC (.int 12)))))) (mRet (mC (.bl false))) mNext)
    (mRet (mOp (empD id) (mComp (mSeq (mVar 0)) (mgName 1) (mNot (mTest (mCall [.S] sd_law_whole (mCons (mVar 1) mNil)))) (mVar 1) [1]) (mLst mNil))))
set_option maxHeartbeats 4000000 in
theorem walk_law_is_right {f : Addr} {fd : FuncData} (F : Fun K "_law_is_right" "_law_is_right" s_law_is_right f fd) {C_Ring : Addr} {sd_law_whole : DSp}
    {f_law_whole : Addr} {fd_law_whole : FuncData} (F_law_whole : FnG P w K mg base 1 f_law_whole fd_law_whole ["_law_thing"] (spD K [.S] sd_law_whole)) (g_law_whole : mg "_law_whole" = some (.ref f_law_whole)) (k_law_whole : PySem.W.keepIn K (.ref f_law_whole) = true) (b_law_whole : Binds K fd_law_whole ["_law_thing"] []) (in_Ring : InsD K C_Ring) (kx_Ring_list : PySem.W.kitOne K (.ref C_Ring) (.type "list") = some false) (z_len : mg "len" = none) (z_isinstance : mg "isinstance" = none) (z_list : mg "list" = none)
    {sd : DSp} (hv : ∀ ds Qd Ed, ds.length = 1 → sd ds Qd Ed → m_law_is_right C_Ring sd_law_whole (endsD [.S] Qd) (startD ["_law_thing", "_law_one"] [.S] ds)) :
    FnG P w K mg base 2 f fd ["_law_thing"] (spD K [.S] sd) := by
  refine fn_dm (N := ["_law_thing", "_law_one"]) F sc_law_is_right rfl hv fun cdv A outer s H0 vs E O H hg hr => ?_
  have sc := sc_law_is_right
  unfold m_law_is_right
  exact ⟨_, (ds_cons (ds_if (dw_pt (dw_or (dt_not (dt_val (de_isiX (T := "list") in_Ring kx_Ring_list (by simp) (by rfl) z_isinstance (de_var 0 (pv 0)) (pe_bltn (by rfl) z_list (by decide +kernel) rfl)))) (dw_or1 (dt_not (dt_chain2 (pt_chain op_le op_le) de_int (de_len (by rfl) z_len (da_cons (de_var 0 (pv 0)) da_nil)) de_int))))) (ds_one (ds_ret de_bl)) ds_nil)
    (ds_one (ds_ret (de_eqEmp hr.units (de_comp (own := [("_law_one", 1)]) ⟨rfl, sc.nd, (di_seq (de_var 0 (pv 0))), blkOk_by (own := [("_law_one", 1)]) (N := ["_law_thing", "_law_one"]) (sc := defScope s_law_is_right) (by decide +kernel), (fun _ _ _ _ _ _ => (dg_name 1 (pg_name (i := 1) sc.nd rfl (by first | exact Or.inl rfl | exact Or.inr rfl)))), (own_name (by simp)), mono_name, (fun _ _ _ _ _ _ => (df_one (dt_not (dt_val (de_call F_law_whole hg (hr.mono (by decide)) (by rfl) g_law_whole k_law_whole b_law_whole (da_cons (de_var 1 (pv 1)) da_nil)))))), (fun _ _ _ _ _ _ => (de_var 1 (pv 1)))⟩) (de_lst da_nil)))))⟩
/-- _law_told(_law_thing) -/
def m_law_told (C_NoText C_Nothing C_Ring C_RingError C_TooMany C_Wrong : Addr) (sd_Ring_ranks : DSp) (sd_Ring___init__ : DSp) (Wd : Dwx) : DTS :=
    (mTryAs 1 [("NoText", true), ("Nothing", true), ("TooMany", true), ("Wrong", true)] (fun Wd1 => (mRet (mCall [.S] sd_Ring_ranks (mSelf C_Ring "ranks" (mMakeX Wd1 C_Ring [.S] sd_Ring___init__ (mCons (mVar 0) mNil)) mNil)))) (fun n1 fds1 a1 => (mSeqS (mIfS (mOr (mNot (mTest (mXis n1 a1 [("NoText", false), ("Nothing", false), ("TooMany", false), ("Wrong", true)] (mVar 1)))) (mOr (mTest (mXisT n1 a1 [[("NoText", true), ("Nothing", false), ("TooMany", false), ("Wrong", false)], [("NoText", false), ("Nothing", true), ("TooMany", false), ("Wrong", false)], [("NoText", false), ("Nothing", false), ("TooMany", true), ("Wrong", false)]] (mVar 1))) (mNot (mTest (mXis n1 a1 [("NoText", true), ("Nothing", true), ("TooMany", true), ("Wrong", true)] (mVar 1)))))) (mRet (mC (.str "other"))) mNext)
    (mRet (mTup (mCons (mC (.str "wrong")) (mCons (mXf n1 fds1 a1 "place" ["Wrong"] (mVar 1)) mNil)))))) Wd)
set_option maxHeartbeats 4000000 in
theorem walk_law_told {f : Addr} {fd : FuncData} (F : Fun K "_law_told" "_law_told" s_law_told f fd) {C_NoText C_Nothing C_Ring C_RingError C_TooMany C_Wrong : Addr} {sd_Ring_ranks : DSp} {sd_Ring___init__ : DSp}
    {f_Ring_ranks : Addr} {fd_Ring_ranks : FuncData} (F_Ring_ranks : FnG P w K mg base 1 f_Ring_ranks fd_Ring_ranks ["self"] (spD K [.S] sd_Ring_ranks)) (b_Ring_ranks : Binds K fd_Ring_ranks ["self"] [])
    {f_Ring___init__ : Addr} {fd_Ring___init__ : FuncData} (F_Ring___init__ : FnG P w K mg base 4 f_Ring___init__ fd_Ring___init__ ["self", "ranks"] (spD K [.M, .S] sd_Ring___init__)) (b_Ring___init__ : Binds K fd_Ring___init__ ["self", "ranks"] []) (ex_RingError : XEx K C_RingError [("NoText", true), ("Nothing", true), ("TooMany", true), ("Wrong", true)]) (g_RingError : mg "RingError" = some (.ref C_RingError)) (g_NoText : mg "NoText" = some (.ref C_NoText)) (g_Nothing : mg "Nothing" = some (.ref C_Nothing)) (g_TooMany : mg "TooMany" = some (.ref C_TooMany)) (g_Wrong : mg "Wrong" = some (.ref C_Wrong)) (cl_Ring : Cls K C_Ring) (mt_Ring_ranks : Meth K C_Ring "ranks" f_Ring_ranks) (mk_Ring : Mk K C_Ring f_Ring___init__) (g_Ring : mg "Ring" = some (.ref C_Ring)) (xf_place : XFd K "place" ["Wrong"]) (is_ValueError : XIs K (.type "ValueError") [("NoText", true), ("Nothing", true), ("TooMany", true), ("Wrong", true)]) (is_NoText : XIs K (.ref C_NoText) [("NoText", true), ("Nothing", false), ("TooMany", false), ("Wrong", false)]) (is_Nothing : XIs K (.ref C_Nothing) [("NoText", false), ("Nothing", true), ("TooMany", false), ("Wrong", false)]) (is_TooMany : XIs K (.ref C_TooMany) [("NoText", false), ("Nothing", false), ("TooMany", true), ("Wrong", false)]) (is_Wrong : XIs K (.ref C_Wrong) [("NoText", false), ("Nothing", false), ("TooMany", false), ("Wrong", true)]) (z_isinstance : mg "isinstance" = none) (z_ValueError : mg "ValueError" = none)
    {sd : DSp} (hv : ∀ ds Qd Ed, ds.length = 1 → sd ds Qd Ed → m_law_told C_NoText C_Nothing C_Ring C_RingError C_TooMany C_Wrong sd_Ring_ranks sd_Ring___init__ (wEnd [.S] Ed) (endsD [.S] Qd) (startD ["_law_thing", "e"] [.S] ds)) :
    FnG P w K mg base 6 f fd ["_law_thing"] (spD K [.S] sd) := by
  refine fn_dx (N := ["_law_thing", "e"]) F sc_law_told rfl hv fun cdv A outer s H0 vs E O Wd hg hr po tk wl => ?_
  have sc := sc_law_told
  unfold m_law_told
  exact ⟨_, (ds_one (ds_try_as (nm := "e") (i := 1) (tab := [("NoText", true), ("Nothing", true), ("TooMany", true), ("Wrong", true)]) rfl rfl sc.nd rfl rfl ⟨by rfl, by decide, .inl g_RingError⟩ tk wl (fun W1 Wd1 pn1 xe1 tk1 po1 wl1 => (ds_one (ds_ret (de_meth0 cl_Ring mt_Ring_ranks F_Ring_ranks hg (hr.mono (by decide)) b_Ring_ranks (de_makeX tk1 wl1 mk_Ring F_Ring___init__ hg (hr.mono (by decide)) (by rfl) g_Ring b_Ring___init__ (da_cons (de_var 0 (pv 0)) da_nil)))))) (fun a1 oe1 cls1 d1 pn1 n1 fvs1 fds1 hz1 hf1 hd1 hm1 hx1 => (ds_cons (ds_if (dw_pt (dw_or (dt_not (dt_val (de_xis hz1 hf1 (by rfl) z_isinstance (de_var 1 (pv 1)) (pe_cls (by rfl) g_Wrong) (fun _ h => h) (hx := is_Wrong)))) (dw_or (dt_val (de_xisT (cs := [.ref C_NoText, .ref C_Nothing, .ref C_TooMany]) (T := .ref C_NoText) (Ts := [.ref C_Nothing, .ref C_TooMany]) hz1 hf1 (by rfl) z_isinstance (de_var 1 (pv 1)) (pa_cons (pe_cls (by rfl) g_NoText) (pa_cons (pe_cls (by rfl) g_Nothing) (pa_cons (pe_cls (by rfl) g_TooMany) pa_nil))) (by simp) (.cons (.own _) (.cons (.own _) (.cons (.own _) .nil))) (hx := (xisl_cons is_NoText (xisl_cons is_Nothing (xisl_cons is_TooMany xisl_nil)))))) (dw_or1 (dt_not (dt_val (de_xis hz1 hf1 (by rfl) z_isinstance (de_var 1 (pv 1)) (pe_bltn (v := .ty "ValueError") (by rfl) z_ValueError (by decide +kernel) rfl) (fun _ h => h) (hx := is_ValueError)))))))) (ds_one (ds_ret de_str)) ds_nil)
    (ds_one (ds_ret (de_tup (da_cons de_str (da_cons (de_xf hz1 hf1 hd1 hm1 hx1 (de_var 1 (pv 1)) (hx := xf_place)) da_nil))))))) (ex := ex_RingError)))⟩
/-- law(_law_script) -/
def m_law (C_Ring : Addr) (sd_Ring___repr__ : DSp) (sd_law_alike : DSp) (sd_law_told : DSp) (sd_law_is_right : DSp) (sd_law_take : DSp) (sd_law_spoiled : DSp) (sd_law_ranks : DSp) (sd_law_some_size : DSp) (sd_law_bag : DSp) : DTS :=
    (mSeqS (mSetO 1 (mCall [.S] sd_law_bag (mCons (mVar 0) mNil)))
    (mSeqS (mFor (mRng1 (mCons (mC (.int 16)) mNil)) (mgName 2) (mSeqS (mSet 3 (mCall [.M, .S] sd_law_some_size (mCons (mVar 1) (mCons (mC (.int 12)) mNil))))
    (mSeqS (mSet 4 (mCall [.M, .S] sd_law_ranks (mCons (mVar 1) (mCons (mVar 3) mNil))))
    (mSeqS (mFor (mRng1 (mCons (mOp ixD (mLst (mCons (mC (.int 0)) (mCons (mC (.int 1)) (mCons (mC (.int 1)) (mCons (mC (.int 2)) mNil))))) (mCall [.M, .S] sd_law_take (mCons (mVar 1) (mCons (mC (.int 4)) mNil)))) mNil)) (mgName 5) (mSet 4 (mCall [.M, .S] sd_law_spoiled (mCons (mVar 1) (mCons (mVar 4) mNil)))))
    (mSeqS (mSet 6 (mReprX C_Ring sd_Ring___repr__ (mVar 4)))
    (mSeqS (mSet 7 (mTup (mCons (mC (.str "wrong")) (mCons (mC (.int 0)) mNil))))
    (mSeqS (mIfS (mTest (mCall [.S] sd_law_is_right (mCons (mVar 4) mNil))) (mSet 7 (mCB listD (mCons (mVar 4) mNil))) mNext)
    (mFor (mRng1 (mCons (mC (.int 2)) mNil)) (mgName 8) (mIfS (mOr (mNot (mTest (mCall [.S, .S] sd_law_alike (mCons (mCall [.S] sd_law_told (mCons (mVar 4) mNil)) (mCons (mVar 7) mNil))))) (mTest (mOp neD (mReprX C_Ring sd_Ring___repr__ (mVar 4)) (mVar 6)))) (mRet (mC (.bl false))) mNext)))))))))
    (mRet (mC (.bl true)))))
set_option maxHeartbeats 4000000 in
theorem walk_law {f : Addr} {fd : FuncData} (F : Fun K "law" "law" s_law f fd) {C_Ring : Addr} {sd_Ring___repr__ : DSp} {sd_law_alike : DSp} {sd_law_told : DSp} {sd_law_is_right : DSp} {sd_law_take : DSp} {sd_law_spoiled : DSp} {sd_law_ranks : DSp} {sd_law_some_size : DSp} {sd_law_bag : DSp}
    {f_Ring___repr__ : Addr} {fd_Ring___repr__ : FuncData} (F_Ring___repr__ : FnG P w K mg base 1 f_Ring___repr__ fd_Ring___repr__ ["self"] (spD K [.S] sd_Ring___repr__)) (b_Ring___repr__ : Binds K fd_Ring___repr__ ["self"] [])
    {f_law_alike : Addr} {fd_law_alike : FuncData} (F_law_alike : FnG P w K mg base 1 f_law_alike fd_law_alike ["_law_found", "_law_due"] (spD K [.S, .S] sd_law_alike)) (g_law_alike : mg "_law_alike" = some (.ref f_law_alike)) (k_law_alike : PySem.W.keepIn K (.ref f_law_alike) = true) (b_law_alike : Binds K fd_law_alike ["_law_found", "_law_due"] [])
    {f_law_told : Addr} {fd_law_told : FuncData} (F_law_told : FnG P w K mg base 6 f_law_told fd_law_told ["_law_thing"] (spD K [.S] sd_law_told)) (g_law_told : mg "_law_told" = some (.ref f_law_told)) (k_law_told : PySem.W.keepIn K (.ref f_law_told) = true) (b_law_told : Binds K fd_law_told ["_law_thing"] [])
    {f_law_is_right : Addr} {fd_law_is_right : FuncData} (F_law_is_right : FnG P w K mg base 2 f_law_is_right fd_law_is_right ["_law_thing"] (spD K [.S] sd_law_is_right)) (g_law_is_right : mg "_law_is_right" = some (.ref f_law_is_right)) (k_law_is_right : PySem.W.keepIn K (.ref f_law_is_right) = true) (b_law_is_right : Binds K fd_law_is_right ["_law_thing"] [])
    {f_law_take : Addr} {fd_law_take : FuncData} (F_law_take : FnG P w K mg base 1 f_law_take fd_law_take ["_law_bag_here", "_law_many"] (spD K [.M, .S] sd_law_take)) (g_law_take : mg "_law_take" = some (.ref f_law_take)) (k_law_take : PySem.W.keepIn K (.ref f_law_take) = true) (b_law_take : Binds K fd_law_take ["_law_bag_here", "_law_many"] [])
    {f_law_spoiled : Addr} {fd_law_spoiled : FuncData} (F_law_spoiled : FnG P w K mg base 6 f_law_spoiled fd_law_spoiled ["_law_bag_here", "_law_thing"] (spD K [.M, .S] sd_law_spoiled)) (g_law_spoiled : mg "_law_spoiled" = some (.ref f_law_spoiled)) (k_law_spoiled : PySem.W.keepIn K (.ref f_law_spoiled) = true) (b_law_spoiled : Binds K fd_law_spoiled ["_law_bag_here", "_law_thing"] [])
    {f_law_ranks : Addr} {fd_law_ranks : FuncData} (F_law_ranks : FnG P w K mg base 2 f_law_ranks fd_law_ranks ["_law_bag_here", "_law_size"] (spD K [.M, .S] sd_law_ranks)) (g_law_ranks : mg "_law_ranks" = some (.ref f_law_ranks)) (k_law_ranks : PySem.W.keepIn K (.ref f_law_ranks) = true) (b_law_ranks : Binds K fd_law_ranks ["_law_bag_here", "_law_size"] [])
    {f_law_some_size : Addr} {fd_law_some_size : FuncData} (F_law_some_size : FnG P w K mg base 2 f_law_some_size fd_law_some_size ["_law_bag_here", "_law_most"] (spD K [.M, .S] sd_law_some_size)) (g_law_some_size : mg "_law_some_size" = some (.ref f_law_some_size)) (k_law_some_size : PySem.W.keepIn K (.ref f_law_some_size) = true) (b_law_some_size : Binds K fd_law_some_size ["_law_bag_here", "_law_most"] [])
    {f_law_bag : Addr} {fd_law_bag : FuncData} (F_law_bag : FnG P w K mg base 1 f_law_bag fd_law_bag ["_law_script"] (spD K [.S] sd_law_bag)) (g_law_bag : mg "_law_bag" = some (.ref f_law_bag)) (k_law_bag : PySem.W.keepIn K (.ref f_law_bag) = true) (b_law_bag : Binds K fd_law_bag ["_law_script"] []) (mt_Ring___repr__ : Meth K C_Ring "__repr__" f_Ring___repr__) (z_range : mg "range" = none) (z_repr : mg "repr" = none) (z_list : mg "list" = none)
    {sd : DSp} (hv : ∀ ds Qd Ed, ds.length = 1 → sd ds Qd Ed → m_law C_Ring sd_Ring___repr__ sd_law_alike sd_law_told sd_law_is_right sd_law_take sd_law_spoiled sd_law_ranks sd_law_some_size sd_law_bag (endsD [.S] Qd) (startD ["_law_script", "_law_bag_here", "_law_go", "_law_size", "_law_thing", "_law_turn", "_law_text", "_law_due", "_law_again"] [.S] ds)) :
    FnG P w K mg base 7 f fd ["_law_script"] (spD K [.S] sd) := by
  refine fn_dm (N := ["_law_script", "_law_bag_here", "_law_go", "_law_size", "_law_thing", "_law_turn", "_law_text", "_law_due", "_law_again"]) F sc_law rfl hv fun cdv A outer s H0 vs E O H hg hr => ?_
  have sc := sc_law
  unfold m_law
  exact ⟨_, (ds_cons (ds_setO (de_call F_law_bag hg (hr.mono (by decide)) (by rfl) g_law_bag k_law_bag b_law_bag (da_cons (de_var 0 (pv 0)) da_nil)) (fun h => ps_set (i := 1) sc.nd rfl (by first | exact Or.inl rfl | exact Or.inr rfl) h))
    (ds_cons (ds_for PassesOwn.never rfl (di_rng1 (by rfl) z_range (da_cons de_int da_nil)) (fun _ => (dg_name 2 (pg_name (i := 2) sc.nd rfl (by first | exact Or.inl rfl | exact Or.inr rfl)))) (fun _ => (ds_cons (ds_set (de_call F_law_some_size hg (hr.mono (by decide)) (by rfl) g_law_some_size k_law_some_size b_law_some_size (da_cons (de_var 1 (pv 1)) (da_cons de_int da_nil))) (fun h => ps_set (i := 3) sc.nd rfl (by first | exact Or.inl rfl | exact Or.inr rfl) h))
    (ds_cons (ds_set (de_call F_law_ranks hg (hr.mono (by decide)) (by rfl) g_law_ranks k_law_ranks b_law_ranks (da_cons (de_var 1 (pv 1)) (da_cons (de_var 3 (pv 3)) da_nil))) (fun h => ps_set (i := 4) sc.nd rfl (by first | exact Or.inl rfl | exact Or.inr rfl) h))
    (ds_cons (ds_for PassesOwn.never rfl (di_rng1 (by rfl) z_range (da_cons (de_ix (de_lst (da_cons de_int (da_cons de_int (da_cons de_int (da_cons de_int da_nil))))) (de_call F_law_take hg (hr.mono (by decide)) (by rfl) g_law_take k_law_take b_law_take (da_cons (de_var 1 (pv 1)) (da_cons de_int da_nil)))) da_nil)) (fun _ => (dg_name 5 (pg_name (i := 5) sc.nd rfl (by first | exact Or.inl rfl | exact Or.inr rfl)))) (fun _ => (ds_one (ds_set (de_call F_law_spoiled hg (hr.mono (by decide)) (by rfl) g_law_spoiled k_law_spoiled b_law_spoiled (da_cons (de_var 1 (pv 1)) (da_cons (de_var 4 (pv 4)) da_nil))) (fun h => ps_set (i := 4) sc.nd rfl (by first | exact Or.inl rfl | exact Or.inr rfl) h)))))
    (ds_cons (ds_set (de_reprX (room100 hr) mt_Ring___repr__.at_ mt_Ring___repr__.fn F_Ring___repr__ hg (hr.mono (by decide)) b_Ring___repr__ (by rfl) z_repr (de_var 4 (pv 4))) (fun h => ps_set (i := 6) sc.nd rfl (by first | exact Or.inl rfl | exact Or.inr rfl) h))
    (ds_cons (ds_set (de_tup (da_cons de_str (da_cons de_int da_nil))) (fun h => ps_set (i := 7) sc.nd rfl (by first | exact Or.inl rfl | exact Or.inr rfl) h))
    (ds_cons (ds_if (dt_val (de_call F_law_is_right hg (hr.mono (by decide)) (by rfl) g_law_is_right k_law_is_right b_law_is_right (da_cons (de_var 4 (pv 4)) da_nil))) (ds_one (ds_set (de_list (by rfl) z_list (da_cons (de_var 4 (pv 4)) da_nil)) (fun h => ps_set (i := 7) sc.nd rfl (by first | exact Or.inl rfl | exact Or.inr rfl) h))) ds_nil)
    (ds_one (ds_for PassesOwn.never rfl (di_rng1 (by rfl) z_range (da_cons de_int da_nil)) (fun _ => (dg_name 8 (pg_name (i := 8) sc.nd rfl (by first | exact Or.inl rfl | exact Or.inr rfl)))) (fun _ => (ds_one (ds_if (dw_pt (dw_or (dt_not (dt_val (de_call F_law_alike hg (hr.mono (by decide)) (by rfl) g_law_alike k_law_alike b_law_alike (da_cons (de_call F_law_told hg (hr.mono (by decide)) (by rfl) g_law_told k_law_told b_law_told (da_cons (de_var 4 (pv 4)) da_nil)) (da_cons (de_var 7 (pv 7)) da_nil))))) (dw_or1 (dt_ne hr.units (de_reprX (room100 hr) mt_Ring___repr__.at_ mt_Ring___repr__.fn F_Ring___repr__ hg (hr.mono (by decide)) b_Ring___repr__ (by rfl) z_repr (de_var 4 (pv 4))) (de_var 6 (pv 6)))))) (ds_one (ds_ret de_bl)) ds_nil)))))))))))))
    (ds_one (ds_ret de_bl))))⟩
end
end LW
namespace LW
open PySem PySem.Spec PyProof.Rows L2 DL
set_option hygiene false in
local macro_rules | `(tactic| row_hasAny gT) => `(tactic| ((with_reducible apply g_all); exact rfl; (simp only [List.length_map, List.length_append, List.length_cons, List.length_nil] at *; omega); exact rfl; (first | (simp only [wipeD, putSt, List.set_cons_zero, List.set_cons_succ]; exact rfl) | exact rfl)))
set_option hygiene false in
local macro_rules | `(tactic| row_hasAny gT) => `(tactic| (with_reducible apply g_All))
set_option hygiene false in
local macro_rules | `(tactic| row_hasAny gT) => `(tactic| (with_reducible apply g_Slc))
set_option hygiene false in
local macro_rules | `(tactic| row_hasAny gT) => `(tactic| ((with_reducible apply s_aug); exact rfl))
set_option hygiene false in
local macro_rules | `(tactic| row_hasAny gT) => `(tactic| ((with_reducible apply g_unl); exact rfl))
set_option hygiene false in
local macro_rules | `(tactic| row_hasAny gT) => `(tactic| ((with_reducible apply s_setEo); (first | exact rfl | assumption); (first | (simp only [wipeD, putSt, List.set_cons_zero, List.set_cons_succ]; exact rfl) | exact rfl)))
set_option hygiene false in
local macro_rules | `(tactic| row_hasAny gT) => `(tactic| ((with_reducible apply s_setEv); (first | exact rfl | assumption); (first | (simp only [wipeD, putSt, List.set_cons_zero, List.set_cons_succ]; exact rfl) | exact rfl)))
set_option hygiene false in
local macro_rules | `(tactic| row_hasAny gT) => `(tactic| ((with_reducible apply s_setF); exact rfl; exact rfl; decide; exact rfl; exact rfl; exact rfl; (first | (simp only [wipeD, putSt, List.set_cons_zero, List.set_cons_succ]; exact rfl) | exact rfl)))
set_option hygiene false in
local macro_rules | `(tactic| row_hasAny gT) => `(tactic| ((with_reducible apply s_a2); exact rfl))
set_option hygiene false in
local macro_rules | `(tactic| row_hasAny gT) => `(tactic| ((with_reducible apply s_a1); exact rfl; first | exact atI_0 | exact atI_1 | exact atI_2 | exact atI_3 | exact atI_ints (by omega)))
set_option hygiene false in
local macro_rules | `(tactic| row_hasAny gT) => `(tactic| ((with_reducible apply g_tup); exact rfl))
set_option hygiene false in
local macro_rules | `(tactic| row_hasAny gT) => `(tactic| (with_reducible apply g_nil))
set_option hygiene false in
local macro_rules | `(tactic| row_hasAny gT) => `(tactic| ((with_reducible apply s_setO); (first | exact rfl | assumption); (first | (simp only [wipeD, putSt, List.set_cons_zero, List.set_cons_succ]; exact rfl) | exact rfl)))
set_option hygiene false in
local macro_rules | `(tactic| row_hasAny gT) => `(tactic| ((with_reducible apply s_asg); exact rfl))
set_option hygiene false in
local macro_rules | `(tactic| row_hasAny gT) => `(tactic| ((with_reducible apply g_sub); exact rfl; exact rfl))
set_option hygiene false in
local macro_rules | `(tactic| row_hasAny gT) => `(tactic| (with_reducible apply g_Sub))
set_option hygiene false in
local macro_rules | `(tactic| row_hasAny gT) => `(tactic| (with_reducible apply g_cons))
set_option hygiene false in
local macro_rules | `(tactic| row_hasAny gT) => `(tactic| ((with_reducible apply g_name); (first | exact rfl | assumption); (first | (simp only [wipeD, putSt, List.set_cons_zero, List.set_cons_succ]; exact rfl) | exact rfl)))
set_option hygiene false in
local macro_rules | `(tactic| row_hasAny gT) => `(tactic| ((with_reducible apply s_set); exact rfl; (first | exact rfl | assumption); (first | (simp only [wipeD, putSt, List.set_cons_zero, List.set_cons_succ]; exact rfl) | exact rfl)))
set_option hygiene false in
local macro_rules | `(tactic| row_hasAny gT) => `(tactic| ((with_reducible apply t_gen); exact rfl))
set_option hygiene false in
local macro_rules | `(tactic| row_hasAny gT) => `(tactic| ((with_reducible apply t_sub); exact rfl))
set_option hygiene false in
local macro_rules | `(tactic| row_hasAny gT) => `(tactic| ((with_reducible apply t_ow); (first | exact rfl | assumption); (first | (simp only [wipeD, putSt, List.set_cons_zero, List.set_cons_succ]; exact rfl) | exact rfl)))
set_option hygiene false in
local macro_rules | `(tactic| row_hasAny gT) => `(tactic| ((with_reducible apply t_sh); exact rfl; (first | exact rfl | assumption); (first | (simp only [wipeD, putSt, List.set_cons_zero, List.set_cons_succ]; exact rfl) | exact rfl)))
set_option hygiene false in
local macro_rules | `(tactic| row_hasAny gT) => `(tactic| (with_reducible apply t_nil))
set_option hygiene false in
local macro_rules | `(tactic| kspl_open gO) => `(tactic| ((with_reducible apply i_ninF (b := false)); exact rfl; exact rfl; (first | exact rfl | decide +kernel)))
set_option hygiene false in
local macro_rules | `(tactic| kspl_open gO) => `(tactic| ((with_reducible apply i_ninF (b := true)); exact rfl; exact rfl; (first | exact rfl | decide +kernel)))
set_option hygiene false in
local macro_rules | `(tactic| kspl_open gO) => `(tactic| ((with_reducible apply i_inF (b := false)); exact rfl; exact rfl; (first | exact rfl | decide +kernel)))
set_option hygiene false in
local macro_rules | `(tactic| kspl_open gO) => `(tactic| ((with_reducible apply i_inF (b := true)); exact rfl; exact rfl; (first | exact rfl | decide +kernel)))
set_option hygiene false in
local macro_rules | `(tactic| kspl_open gO) => `(tactic| (with_reducible apply i_isnB))
set_option hygiene false in
local macro_rules | `(tactic| kspl_open gO) => `(tactic| (with_reducible apply i_isB))
set_option hygiene false in
local macro_rules | `(tactic| kspl_open gO) => `(tactic| (with_reducible apply i_subI))
set_option hygiene false in
local macro_rules | `(tactic| kspl_open gO) => `(tactic| (with_reducible apply i_inSS))
set_option hygiene false in
local macro_rules | `(tactic| kspl_open gO) => `(tactic| (with_reducible apply i_eqEmT))
set_option hygiene false in
local macro_rules | `(tactic| kspl_open gO) => `(tactic| (with_reducible apply i_le))
set_option hygiene false in
local macro_rules | `(tactic| kspl_open gO) => `(tactic| (with_reducible apply i_addI))
set_option hygiene false in
local macro_rules | `(tactic| kspl_open gO) => `(tactic| (with_reducible apply i_neEmp))
set_option hygiene false in
local macro_rules | `(tactic| kspl_open gO) => `(tactic| (with_reducible apply i_eqEmp))
set_option hygiene false in
local macro_rules | `(tactic| kspl_open gO) => `(tactic| (with_reducible apply i_neg))
set_option hygiene false in
local macro_rules | `(tactic| kspl_open gO) => `(tactic| ((with_reducible apply i_neC (b := false)); decide +kernel; decide +kernel; decide +kernel))
set_option hygiene false in
local macro_rules | `(tactic| kspl_open gO) => `(tactic| ((with_reducible apply i_neC (b := true)); decide +kernel; decide +kernel; decide +kernel))
set_option hygiene false in
local macro_rules | `(tactic| kspl_open gO) => `(tactic| (with_reducible apply i_neB))
set_option hygiene false in
local macro_rules | `(tactic| kspl_open gO) => `(tactic| (with_reducible apply i_neT))
set_option hygiene false in
local macro_rules | `(tactic| kspl_open gO) => `(tactic| (with_reducible apply i_neL))
set_option hygiene false in
local macro_rules | `(tactic| kspl_open gO) => `(tactic| (with_reducible apply i_neI))
set_option hygiene false in
local macro_rules | `(tactic| kspl_open gO) => `(tactic| ((with_reducible apply i_pow); first | exact ⟨by decide, by decide⟩ | rotate_left))
set_option hygiene false in
local macro_rules | `(tactic| kspl_open gO) => `(tactic| ((with_reducible apply i_powN); (simp only [Int.reduceToNat]; exact rfl); exact ⟨by decide, by decide⟩))
set_option hygiene false in
local macro_rules | `(tactic| kspl_open gO) => `(tactic| ((with_reducible apply i_div); first | exact divW_of (by decide) (by decide) | exact divW_of (by omega) (by omega) | rotate_left))
set_option hygiene false in
local macro_rules | `(tactic| kspl_open gO) => `(tactic| (with_reducible apply i_ge))
set_option hygiene false in
local macro_rules | `(tactic| kspl_open gO) => `(tactic| (with_reducible apply i_lt))
set_option hygiene false in
local macro_rules | `(tactic| kspl_open gO) => `(tactic| (with_reducible apply i_gt))
set_option hygiene false in
local macro_rules | `(tactic| kspl_open gO) => `(tactic| ((with_reducible apply i_eqC (b := false)); decide +kernel; decide +kernel; decide +kernel))
set_option hygiene false in
local macro_rules | `(tactic| kspl_open gO) => `(tactic| ((with_reducible apply i_eqC (b := true)); decide +kernel; decide +kernel; decide +kernel))
set_option hygiene false in
local macro_rules | `(tactic| kspl_open gO) => `(tactic| (with_reducible apply i_eqB))
set_option hygiene false in
local macro_rules | `(tactic| kspl_open gO) => `(tactic| (with_reducible apply i_eqT))
set_option hygiene false in
local macro_rules | `(tactic| kspl_open gO) => `(tactic| (with_reducible apply i_eqL))
set_option hygiene false in
local macro_rules | `(tactic| kspl_open gO) => `(tactic| (with_reducible apply i_eqI))
set_option hygiene false in
local macro_rules | `(tactic| kspl_open gO) => `(tactic| ((with_reducible apply i_mod); first | decide | with_reducible assumption | omega | rotate_left))
set_option hygiene false in
local macro_rules | `(tactic| kspl_open gO) => `(tactic| ((with_reducible apply i_mulR); omega))
set_option hygiene false in
local macro_rules | `(tactic| kspl_open gO) => `(tactic| ((with_reducible apply i_mul); first | exact mulOk_r (by decide) (by decide) | exact mulOk_l (by decide) (by decide) | exact mulOk_r (by omega) (by omega) | exact mulOk_l (by omega) (by omega) | rotate_left))
set_option hygiene false in
local macro_rules | `(tactic| kspl_open gO) => `(tactic| (with_reducible apply i_sub))
set_option hygiene false in
local macro_rules | `(tactic| kspl_open gO) => `(tactic| ((with_reducible apply i_addS); rotate_left))
set_option hygiene false in
local macro_rules | `(tactic| kspl_open gO) => `(tactic| ((with_reducible apply i_addL); first | (simp only [List.length_map, List.length_append, List.length_cons, List.length_nil] at *; omega) | rotate_left))
set_option hygiene false in
local macro_rules | `(tactic| kspl_open gO) => `(tactic| (with_reducible apply i_add))
set_option hygiene false in
local macro_rules | `(tactic| row_readAll gE) => `(tactic| (with_reducible apply e_LenSet))
set_option hygiene false in
local macro_rules | `(tactic| row_readAll gE) => `(tactic| ((with_reducible apply e_eqX); exact rfl; exact rfl; exact rfl))
set_option hygiene false in
local macro_rules | `(tactic| row_readAll gE) => `(tactic| (with_reducible apply e_OrT))
set_option hygiene false in
local macro_rules | `(tactic| row_readAll gE) => `(tactic| (with_reducible apply e_EqX))
set_option hygiene false in
local macro_rules | `(tactic| row_readAll gE) => `(tactic| ((with_reducible apply e_d1T); exact rfl; exact rfl))
set_option hygiene false in
local macro_rules | `(tactic| row_readAll gE) => `(tactic| ((with_reducible apply e_d1s); exact rfl; exact rfl))
set_option hygiene false in
local macro_rules | `(tactic| row_readAll gE) => `(tactic| ((with_reducible apply e_d1); exact rfl; exact rfl))
set_option hygiene false in
local macro_rules | `(tactic| row_readAll gE) => `(tactic| ((with_reducible apply e_g1a); exact rfl; exact rfl))
set_option hygiene false in
local macro_rules | `(tactic| row_readAll gE) => `(tactic| ((with_reducible apply e_g2a); exact rfl; exact rfl))
set_option hygiene false in
local macro_rules | `(tactic| row_readAll gE) => `(tactic| (with_reducible apply e_Dict1T))
set_option hygiene false in
local macro_rules | `(tactic| row_readAll gE) => `(tactic| (with_reducible apply e_Dict0T))
set_option hygiene false in
local macro_rules | `(tactic| row_readAll gE) => `(tactic| (with_reducible apply e_Dict1))
set_option hygiene false in
local macro_rules | `(tactic| row_readAll gE) => `(tactic| (with_reducible apply e_lkT))
set_option hygiene false in
local macro_rules | `(tactic| row_readAll gE) => `(tactic| (with_reducible apply e_lkK))
set_option hygiene false in
local macro_rules | `(tactic| row_readAll gE) => `(tactic| (with_reducible apply e_Lock))
set_option hygiene false in
local macro_rules | `(tactic| row_readAll gE) => `(tactic| (with_reducible apply e_DGet1))
set_option hygiene false in
local macro_rules | `(tactic| row_readAll gE) => `(tactic| (with_reducible apply e_DGet2))
set_option hygiene false in
local macro_rules | `(tactic| row_readAll gE) => `(tactic| (with_reducible apply e_IsiX))
set_option hygiene false in
local macro_rules | `(tactic| row_readAll gE) => `(tactic| (with_reducible apply e_DictI))
set_option hygiene false in
local macro_rules | `(tactic| row_readAll gE) => `(tactic| (with_reducible apply e_ReprX))
set_option hygiene false in
local macro_rules | `(tactic| row_readAll gE) => `(tactic| (with_reducible apply e_MakeX))
set_option hygiene false in
local macro_rules | `(tactic| row_readAll gE) => `(tactic| ((with_reducible apply e_xf); (first | exact rfl | decide +kernel); (first | exact rfl | decide +kernel)))
set_option hygiene false in
local macro_rules | `(tactic| row_readAll gE) => `(tactic| (with_reducible apply e_Xf))
set_option hygiene false in
local macro_rules | `(tactic| row_readAll gE) => `(tactic| ((with_reducible apply e_xis); (first | exact rfl | decide +kernel)))
set_option hygiene false in
local macro_rules | `(tactic| row_readAll gE) => `(tactic| (with_reducible apply e_Xis))
set_option hygiene false in
local macro_rules | `(tactic| row_readAll gE) => `(tactic| (with_reducible apply e_CallX))
set_option hygiene false in
local macro_rules | `(tactic| row_readAll gE) => `(tactic| ((with_reducible apply e_ko); exact rfl))
set_option hygiene false in
local macro_rules | `(tactic| row_readAll gE) => `(tactic| ((with_reducible apply e_ks); exact rfl))
set_option hygiene false in
local macro_rules | `(tactic| row_readAll gE) => `(tactic| ((with_reducible apply e_kb); exact rfl))
set_option hygiene false in
local macro_rules | `(tactic| row_readAll gE) => `(tactic| ((with_reducible apply e_Bor); (first | (simp only [allSh, shS, List.map_cons, List.map_nil]; exact rfl) | exact rfl)))
set_option hygiene false in
local macro_rules | `(tactic| row_readAll gE) => `(tactic| ((with_reducible apply e_srg); exact RgOk.of_le (by omega) (by omega) (by omega) (by omega)))
set_option hygiene false in
local macro_rules | `(tactic| row_readAll gE) => `(tactic| ((with_reducible apply e_trg); exact RgOk.of_le (by omega) (by omega) (by omega) (by omega)))
set_option hygiene false in
local macro_rules | `(tactic| row_readAll gE) => `(tactic| ((with_reducible apply e_eqO); exact rfl; exact rfl))
set_option hygiene false in
local macro_rules | `(tactic| row_readAll gE) => `(tactic| (with_reducible apply e_EqO))
set_option hygiene false in
local macro_rules | `(tactic| row_readAll gE) => `(tactic| ((with_reducible apply e_isO); exact rfl; first | exact isO_self | exact rfl))
set_option hygiene false in
local macro_rules | `(tactic| row_readAll gE) => `(tactic| (with_reducible apply e_IsO))
set_option hygiene false in
local macro_rules | `(tactic| row_readAll gE) => `(tactic| ((with_reducible apply w_ss); exact rfl; (first | omega | rotate_left); intro sset hsset hsset2))
set_option hygiene false in
local macro_rules | `(tactic| row_readAll gE) => `(tactic| (with_reducible apply e_mutF))
set_option hygiene false in
local macro_rules | `(tactic| row_readAll gE) => `(tactic| (with_reducible apply e_MutF))
set_option hygiene false in
local macro_rules | `(tactic| row_readAll gE) => `(tactic| (with_reducible apply e_Joined))
set_option hygiene false in
local macro_rules | `(tactic| row_readAll gE) => `(tactic| ((with_reducible apply e_fmtL); exact rfl; rotate_left))
set_option hygiene false in
local macro_rules | `(tactic| row_readAll gE) => `(tactic| (with_reducible apply e_Fmt))
set_option hygiene false in
local macro_rules | `(tactic| row_readAll gE) => `(tactic| ((with_reducible apply e_lenO); exact rfl))
set_option hygiene false in
local macro_rules | `(tactic| row_readAll gE) => `(tactic| ((with_reducible apply e_reprO); exact rfl))
set_option hygiene false in
local macro_rules | `(tactic| row_readAll gE) => `(tactic| (with_reducible apply e_LenO))
set_option hygiene false in
local macro_rules | `(tactic| row_readAll gE) => `(tactic| (with_reducible apply e_ReprO))
set_option hygiene false in
local macro_rules | `(tactic| row_readAll gE) => `(tactic| (with_reducible apply w_Comp2))
set_option hygiene false in
local macro_rules | `(tactic| row_readAll gE) => `(tactic| (with_reducible apply w_SS))
set_option hygiene false in
local macro_rules | `(tactic| row_readAll gE) => `(tactic| ((with_reducible apply e_revL); (first | exact rfl | exact rd_hd rfl (by with_reducible assumption) | exact rds_hd1 rfl (by with_reducible assumption) | ((with_reducible apply rd_hd); exact rfl; ((repeat (first | (with_reducible refine Eq.trans (putA_ne ?_) ?_; with_reducible assumption) | (with_reducible refine Eq.trans (delA_ne ?_) ?_; with_reducible assumption))); first | with_reducible exact putA_same | with_reducible assumption)) | ((with_reducible apply rds_hd1); exact rfl; ((repeat (first | (with_reducible refine Eq.trans (putA_ne ?_) ?_; with_reducible assumption) | (with_reducible refine Eq.trans (delA_ne ?_) ?_; with_reducible assumption))); first | with_reducible exact putA_same | with_reducible assumption)))))
set_option hygiene false in
local macro_rules | `(tactic| row_readAll gE) => `(tactic| (with_reducible apply e_Dict0))
set_option hygiene false in
local macro_rules | `(tactic| row_readAll gE) => `(tactic| (with_reducible apply e_SRg))
set_option hygiene false in
local macro_rules | `(tactic| row_readAll gE) => `(tactic| (with_reducible apply e_TRg))
set_option hygiene false in
local macro_rules | `(tactic| row_readAll gE) => `(tactic| (with_reducible apply e_RevL))
set_option hygiene false in
local macro_rules | `(tactic| row_readAll gE) => `(tactic| (with_reducible apply e_orV))
set_option hygiene false in
local macro_rules | `(tactic| row_readAll gE) => `(tactic| (with_reducible apply e_XisT))
set_option hygiene false in
local macro_rules | `(tactic| row_readAll gE) => `(tactic| ((with_reducible apply e_ida); exact rfl; exact rfl))
set_option hygiene false in
local macro_rules | `(tactic| row_readAll gE) => `(tactic| (with_reducible apply e_Index))
set_option hygiene false in
local macro_rules | `(tactic| row_readAll gE) => `(tactic| ((with_reducible apply i_count); exact rfl; exact rfl))
set_option hygiene false in
local macro_rules | `(tactic| row_readAll gE) => `(tactic| ((with_reducible apply e_cna); exact rfl; exact rfl))
set_option hygiene false in
local macro_rules | `(tactic| row_readAll gE) => `(tactic| (with_reducible apply e_Count))
set_option hygiene false in
local macro_rules | `(tactic| row_readAll gE) => `(tactic| (with_reducible apply e_SortItems))
set_option hygiene false in
local macro_rules | `(tactic| row_readAll gE) => `(tactic| (with_reducible apply e_NeTO))
set_option hygiene false in
local macro_rules | `(tactic| row_readAll gE) => `(tactic| ((with_reducible apply e_MakeL); exact rfl))
set_option hygiene false in
local macro_rules | `(tactic| row_readAll gE) => `(tactic| (with_reducible apply e_ch2))
set_option hygiene false in
local macro_rules | `(tactic| row_readAll gE) => `(tactic| (with_reducible apply e_ch1))
set_option hygiene false in
local macro_rules | `(tactic| row_readAll gE) => `(tactic| (with_reducible apply e_Chain))
set_option hygiene false in
local macro_rules | `(tactic| row_readAll gE) => `(tactic| ((with_reducible apply e_xisTT); (first | exact rfl | decide +kernel)))
set_option hygiene false in
local macro_rules | `(tactic| row_readAll gE) => `(tactic| ((with_reducible apply e_xisTF); (first | exact rfl | decide +kernel)))
set_option hygiene false in
local macro_rules | `(tactic| row_readAll gE) => `(tactic| (with_reducible apply e_IsiTu))
set_option hygiene false in
local macro_rules | `(tactic| row_readAll gE) => `(tactic| (with_reducible apply e_notv))
set_option hygiene false in
local macro_rules | `(tactic| row_readAll gE) => `(tactic| (with_reducible apply e_notV))
set_option hygiene false in
local macro_rules | `(tactic| row_readAll gE) => `(tactic| (with_reducible apply e_LenSetS))
set_option hygiene false in
local macro_rules | `(tactic| row_readAll gE) => `(tactic| (with_reducible apply e_Make))
set_option hygiene false in
local macro_rules | `(tactic| row_readAll gE) => `(tactic| (with_reducible apply e_Sl))
set_option hygiene false in
local macro_rules | `(tactic| row_readAll gE) => `(tactic| ((with_reducible apply e_isiTuF); exact rfl; exact rfl; exact rfl))
set_option hygiene false in
local macro_rules | `(tactic| row_readAll gE) => `(tactic| ((with_reducible apply e_isiTuT); exact rfl; exact rfl; exact rfl))
set_option hygiene false in
local macro_rules | `(tactic| row_readAll gE) => `(tactic| ((with_reducible apply e_lrg); exact RgOk.of_le (by omega) (by omega) (by omega) (by omega)))
set_option hygiene false in
local macro_rules | `(tactic| row_readAll gE) => `(tactic| (with_reducible apply e_LRg))
set_option hygiene false in
local macro_rules | `(tactic| row_readAll gE) => `(tactic| (with_reducible apply e_un))
set_option hygiene false in
local macro_rules | `(tactic| row_readAll gE) => `(tactic| (with_reducible apply e_if))
set_option hygiene false in
local macro_rules | `(tactic| row_readAll gE) => `(tactic| ((with_reducible apply e_mu1); exact rfl; exact rfl))
set_option hygiene false in
local macro_rules | `(tactic| row_readAll gE) => `(tactic| ((with_reducible apply e_mu0); exact rfl))
set_option hygiene false in
local macro_rules | `(tactic| row_readAll gE) => `(tactic| (with_reducible apply e_Mut))
set_option hygiene false in
local macro_rules | `(tactic| row_readAll gE) => `(tactic| (with_reducible apply e_Tup))
set_option hygiene false in
local macro_rules | `(tactic| row_readAll gE) => `(tactic| (with_reducible apply e_andV))
set_option hygiene false in
local macro_rules | `(tactic| row_readAll gE) => `(tactic| ((with_reducible apply e_isiF); exact rfl; exact rfl; exact rfl))
set_option hygiene false in
local macro_rules | `(tactic| row_readAll gE) => `(tactic| ((with_reducible apply e_isiT); exact rfl; exact rfl; exact rfl))
set_option hygiene false in
local macro_rules | `(tactic| row_readAll gE) => `(tactic| (with_reducible apply e_Isi))
set_option hygiene false in
local macro_rules | `(tactic| row_readAll gE) => `(tactic| ((with_reducible apply e_fld); exact rfl; first | exact fld_1 | exact fld_2 (by decide +kernel) | exact fld_3 (by decide +kernel) (by decide +kernel) | exact fld_4 (by decide +kernel) (by decide +kernel) (by decide +kernel) | rotate_left))
set_option hygiene false in
local macro_rules | `(tactic| row_readAll gE) => `(tactic| (with_reducible apply e_Fld))
set_option hygiene false in
local macro_rules | `(tactic| row_readAll gE) => `(tactic| (with_reducible apply e_Lst))
set_option hygiene false in
local macro_rules | `(tactic| row_readAll gE) => `(tactic| (with_reducible apply w_Comp))
set_option hygiene false in
local macro_rules | `(tactic| row_readAll gE) => `(tactic| (with_reducible apply e_CB))
set_option hygiene false in
local macro_rules | `(tactic| row_readAll gE) => `(tactic| (with_reducible apply e_Call))
set_option hygiene false in
local macro_rules | `(tactic| row_hasAny gS) => `(tactic| (with_reducible apply s_RetNP))
set_option hygiene false in
local macro_rules | `(tactic| row_hasAny gS) => `(tactic| ((with_reducible apply s_Np); (first | exact rfl | (simp only [freeE, Bool.and_eq_true, Bool.and_true]; (repeat' constructor) <;> first | rfl | assumption)); exact rfl; (first | (simp only [boxE, boxS]; exact rfl) | exact rfl)))
set_option hygiene false in
local macro_rules | `(tactic| row_hasAny gS) => `(tactic| ((with_reducible apply s_frzL); exact rfl; exact rfl; (first | (simp only [wipeD, putSt, List.set_cons_zero, List.set_cons_succ]; exact rfl) | exact rfl)))
set_option hygiene false in
local macro_rules | `(tactic| row_hasAny gS) => `(tactic| (with_reducible apply s_DPut))
set_option hygiene false in
local macro_rules | `(tactic| row_hasAny gS) => `(tactic| (with_reducible apply s_Raise0))
set_option hygiene false in
local macro_rules | `(tactic| row_hasAny gS) => `(tactic| (with_reducible apply s_Try))
set_option hygiene false in
local macro_rules | `(tactic| row_hasAny gS) => `(tactic| (with_reducible apply s_TryAs))
set_option hygiene false in
local macro_rules | `(tactic| row_hasAny gS) => `(tactic| (with_reducible apply s_Raise))
set_option hygiene false in
local macro_rules | `(tactic| row_hasAny gS) => `(tactic| (with_reducible apply s_Scr))
set_option hygiene false in
local macro_rules | `(tactic| row_hasAny gS) => `(tactic| ((with_reducible apply s_Aug); exact rfl))
set_option hygiene false in
local macro_rules | `(tactic| row_hasAny gS) => `(tactic| (with_reducible apply s_SetE))
set_option hygiene false in
local macro_rules | `(tactic| row_hasAny gS) => `(tactic| (with_reducible apply s_retN))
set_option hygiene false in
local macro_rules | `(tactic| row_hasAny gS) => `(tactic| (with_reducible apply s_cnt))
set_option hygiene false in
local macro_rules | `(tactic| row_hasAny gS) => `(tactic| (with_reducible apply s_brk))
set_option hygiene false in
local macro_rules | `(tactic| row_hasAny gS) => `(tactic| (with_reducible apply s_SetF))
set_option hygiene false in
local macro_rules | `(tactic| row_hasAny gS) => `(tactic| (with_reducible apply s_AugS))
set_option hygiene false in
local macro_rules | `(tactic| row_hasAny gS) => `(tactic| ((with_reducible apply s_frz); exact rfl))
set_option hygiene false in
local macro_rules | `(tactic| row_hasAny gS) => `(tactic| (with_reducible apply s_Par3))
set_option hygiene false in
local macro_rules | `(tactic| row_hasAny gS) => `(tactic| (with_reducible apply s_SetO))
set_option hygiene false in
local macro_rules | `(tactic| row_hasAny gS) => `(tactic| (with_reducible apply s_drop))
set_option hygiene false in
local macro_rules | `(tactic| row_hasAny gS) => `(tactic| (with_reducible apply s_Asg))
set_option hygiene false in
local macro_rules | `(tactic| row_hasAny gS) => `(tactic| (with_reducible apply s_For))
set_option hygiene false in
local macro_rules | `(tactic| row_hasAny gS) => `(tactic| (with_reducible apply s_Par))
set_option hygiene false in
local macro_rules | `(tactic| row_hasAny gS) => `(tactic| (with_reducible apply s_next))
set_option hygiene false in
local macro_rules | `(tactic| row_hasAny gS) => `(tactic| (with_reducible apply s_if))
set_option hygiene false in
local macro_rules | `(tactic| row_hasAny gS) => `(tactic| (with_reducible apply s_Set))
set_option hygiene false in
local macro_rules | `(tactic| row_hasAny gS) => `(tactic| (with_reducible apply s_ret))
set_option hygiene false in
local macro_rules | `(tactic| kspl_open gB) => `(tactic| (with_reducible apply i_repr0))
set_option hygiene false in
local macro_rules | `(tactic| kspl_open gB) => `(tactic| (with_reducible apply i_any))
set_option hygiene false in
local macro_rules | `(tactic| kspl_open gB) => `(tactic| (with_reducible apply i_sumT))
set_option hygiene false in
local macro_rules | `(tactic| kspl_open gB) => `(tactic| (with_reducible apply i_sum))
set_option hygiene false in
local macro_rules | `(tactic| kspl_open gB) => `(tactic| (with_reducible apply i_tupleT))
set_option hygiene false in
local macro_rules | `(tactic| kspl_open gB) => `(tactic| (with_reducible apply i_tuple))
set_option hygiene false in
local macro_rules | `(tactic| kspl_open gB) => `(tactic| ((with_reducible apply i_divmod); first | exact ⟨by omega, by omega⟩ | rotate_left))
set_option hygiene false in
local macro_rules | `(tactic| kspl_open gB) => `(tactic| (with_reducible apply i_all))
set_option hygiene false in
local macro_rules | `(tactic| kspl_open gB) => `(tactic| ((with_reducible apply i_maxT); (first | omega | rotate_left); intro most hmost hmost2))
set_option hygiene false in
local macro_rules | `(tactic| kspl_open gB) => `(tactic| ((with_reducible apply i_maxL); (first | omega | rotate_left); intro most hmost hmost2))
set_option hygiene false in
local macro_rules | `(tactic| kspl_open gB) => `(tactic| (with_reducible apply i_max3))
set_option hygiene false in
local macro_rules | `(tactic| kspl_open gB) => `(tactic| (with_reducible apply i_max))
set_option hygiene false in
local macro_rules | `(tactic| kspl_open gB) => `(tactic| (with_reducible apply i_intB))
set_option hygiene false in
local macro_rules | `(tactic| kspl_open gB) => `(tactic| (with_reducible apply i_int))
set_option hygiene false in
local macro_rules | `(tactic| kspl_open gB) => `(tactic| (with_reducible apply i_abs))
set_option hygiene false in
local macro_rules | `(tactic| kspl_open gB) => `(tactic| (with_reducible apply i_listC))
set_option hygiene false in
local macro_rules | `(tactic| kspl_open gB) => `(tactic| (with_reducible apply i_listT))
set_option hygiene false in
local macro_rules | `(tactic| kspl_open gB) => `(tactic| (with_reducible apply i_list))
set_option hygiene false in
local macro_rules | `(tactic| kspl_open gB) => `(tactic| ((with_reducible apply i_minT); (first | omega | rotate_left); intro least hleast hleast2))
set_option hygiene false in
local macro_rules | `(tactic| kspl_open gB) => `(tactic| ((with_reducible apply i_minL); (first | omega | rotate_left); intro least hleast hleast2))
set_option hygiene false in
local macro_rules | `(tactic| kspl_open gB) => `(tactic| (with_reducible apply i_min))
set_option hygiene false in
local macro_rules | `(tactic| kspl_open gB) => `(tactic| ((with_reducible apply i_lenS); first | omega | with_reducible assumption | rotate_left))
set_option hygiene false in
local macro_rules | `(tactic| kspl_open gB) => `(tactic| (with_reducible apply i_lenC))
set_option hygiene false in
local macro_rules | `(tactic| kspl_open gB) => `(tactic| (with_reducible apply i_lenT))
set_option hygiene false in
local macro_rules | `(tactic| kspl_open gB) => `(tactic| (with_reducible apply i_lenTI))
set_option hygiene false in
local macro_rules | `(tactic| kspl_open gB) => `(tactic| (with_reducible apply i_len))
set_option hygiene false in
local macro_rules | `(tactic| kspl_open gB) => `(tactic| (with_reducible apply i_lenI))
set_option hygiene false in
local macro_rules | `(tactic| kspl_open gL) => `(tactic| (with_reducible apply e_Snoc))
set_option hygiene false in
local macro_rules | `(tactic| kspl_open gL) => `(tactic| (with_reducible apply e_Cls))
set_option hygiene false in
local macro_rules | `(tactic| kspl_open gL) => `(tactic| ((with_reducible apply e_pairO); exact rfl; exact rfl))
set_option hygiene false in
local macro_rules | `(tactic| kspl_open gL) => `(tactic| (with_reducible apply e_PairO))
set_option hygiene false in
local macro_rules | `(tactic| kspl_open gL) => `(tactic| ((with_reducible apply e_self1); exact rfl))
set_option hygiene false in
local macro_rules | `(tactic| kspl_open gL) => `(tactic| (with_reducible apply e_Self1))
set_option hygiene false in
local macro_rules | `(tactic| kspl_open gL) => `(tactic| ((with_reducible apply e_self); exact rfl; decide +kernel))
set_option hygiene false in
local macro_rules | `(tactic| kspl_open gL) => `(tactic| (with_reducible apply e_Self))
set_option hygiene false in
local macro_rules | `(tactic| kspl_open gL) => `(tactic| (with_reducible apply p_nil))
set_option hygiene false in
local macro_rules | `(tactic| kspl_open gL) => `(tactic| ((with_reducible apply p_cons); exact rfl))
set_option hygiene false in
local macro_rules | `(tactic| kspl_open gL) => `(tactic| (with_reducible apply p_Cons))
set_option hygiene false in
local macro_rules | `(tactic| kspl_open gW) => `(tactic| ((with_reducible apply w_kwT); intro dko dkv))
set_option hygiene false in
local macro_rules | `(tactic| kspl_open gW) => `(tactic| (with_reducible apply w_ItemsWT))
set_option hygiene false in
local macro_rules | `(tactic| kspl_open gW) => `(tactic| (with_reducible apply w_KeysWT))
set_option hygiene false in
local macro_rules | `(tactic| kspl_open gW) => `(tactic| (with_reducible apply w_Rng3))
set_option hygiene false in
local macro_rules | `(tactic| kspl_open gW) => `(tactic| ((with_reducible apply w_kw); intro dko dkv))
set_option hygiene false in
local macro_rules | `(tactic| kspl_open gW) => `(tactic| (with_reducible apply w_ValsW))
set_option hygiene false in
local macro_rules | `(tactic| kspl_open gW) => `(tactic| (with_reducible apply w_ItemsW))
set_option hygiene false in
local macro_rules | `(tactic| kspl_open gW) => `(tactic| (with_reducible apply w_KeysW))
set_option hygiene false in
local macro_rules | `(tactic| kspl_open gW) => `(tactic| ((with_reducible apply w_rvd); (first | exact rfl | exact rd_hd rfl (by with_reducible assumption) | exact rds_hd1 rfl (by with_reducible assumption) | ((with_reducible apply rd_hd); exact rfl; ((repeat (first | (with_reducible refine Eq.trans (putA_ne ?_) ?_; with_reducible assumption) | (with_reducible refine Eq.trans (delA_ne ?_) ?_; with_reducible assumption))); first | with_reducible exact putA_same | with_reducible assumption)) | ((with_reducible apply rds_hd1); exact rfl; ((repeat (first | (with_reducible refine Eq.trans (putA_ne ?_) ?_; with_reducible assumption) | (with_reducible refine Eq.trans (delA_ne ?_) ?_; with_reducible assumption))); first | with_reducible exact putA_same | with_reducible assumption))); (first | exact rfl | exact rd_hd rfl (by with_reducible assumption) | exact rds_hd1 rfl (by with_reducible assumption) | ((with_reducible apply rd_hd); exact rfl; ((repeat (first | (with_reducible refine Eq.trans (putA_ne ?_) ?_; with_reducible assumption) | (with_reducible refine Eq.trans (delA_ne ?_) ?_; with_reducible assumption))); first | with_reducible exact putA_same | with_reducible assumption)) | ((with_reducible apply rds_hd1); exact rfl; ((repeat (first | (with_reducible refine Eq.trans (putA_ne ?_) ?_; with_reducible assumption) | (with_reducible refine Eq.trans (delA_ne ?_) ?_; with_reducible assumption))); first | with_reducible exact putA_same | with_reducible assumption)))))
set_option hygiene false in
local macro_rules | `(tactic| kspl_open gW) => `(tactic| (with_reducible apply w_Rev))
set_option hygiene false in
local macro_rules | `(tactic| kspl_open gW) => `(tactic| ((with_reducible apply w_zip); (first | exact rfl | exact rd_hd rfl (by with_reducible assumption) | exact rds_hd1 rfl (by with_reducible assumption) | ((with_reducible apply rd_hd); exact rfl; ((repeat (first | (with_reducible refine Eq.trans (putA_ne ?_) ?_; with_reducible assumption) | (with_reducible refine Eq.trans (delA_ne ?_) ?_; with_reducible assumption))); first | with_reducible exact putA_same | with_reducible assumption)) | ((with_reducible apply rds_hd1); exact rfl; ((repeat (first | (with_reducible refine Eq.trans (putA_ne ?_) ?_; with_reducible assumption) | (with_reducible refine Eq.trans (delA_ne ?_) ?_; with_reducible assumption))); first | with_reducible exact putA_same | with_reducible assumption))); (first | exact rfl | exact rd_hd rfl (by with_reducible assumption) | exact rds_hd1 rfl (by with_reducible assumption) | ((with_reducible apply rd_hd); exact rfl; ((repeat (first | (with_reducible refine Eq.trans (putA_ne ?_) ?_; with_reducible assumption) | (with_reducible refine Eq.trans (delA_ne ?_) ?_; with_reducible assumption))); first | with_reducible exact putA_same | with_reducible assumption)) | ((with_reducible apply rds_hd1); exact rfl; ((repeat (first | (with_reducible refine Eq.trans (putA_ne ?_) ?_; with_reducible assumption) | (with_reducible refine Eq.trans (delA_ne ?_) ?_; with_reducible assumption))); first | with_reducible exact putA_same | with_reducible assumption)))))
set_option hygiene false in
local macro_rules | `(tactic| kspl_open gW) => `(tactic| (with_reducible apply w_Zip))
set_option hygiene false in
local macro_rules | `(tactic| kspl_open gW) => `(tactic| ((with_reducible apply w_rng2); first | decide | omega | rotate_left))
set_option hygiene false in
local macro_rules | `(tactic| kspl_open gW) => `(tactic| (with_reducible apply w_Rng2))
set_option hygiene false in
local macro_rules | `(tactic| kspl_open gW) => `(tactic| ((with_reducible apply w_enum); exact rfl; exact rfl))
set_option hygiene false in
local macro_rules | `(tactic| kspl_open gW) => `(tactic| (with_reducible apply w_Enum))
set_option hygiene false in
local macro_rules | `(tactic| kspl_open gW) => `(tactic| ((with_reducible apply w_seqt); exact rfl))
set_option hygiene false in
local macro_rules | `(tactic| kspl_open gW) => `(tactic| (with_reducible apply w_SeqT))
set_option hygiene false in
local macro_rules | `(tactic| kspl_open gW) => `(tactic| ((with_reducible apply w_rng1); first | decide | omega | rotate_left))
set_option hygiene false in
local macro_rules | `(tactic| kspl_open gW) => `(tactic| (with_reducible apply w_Rng1))
set_option hygiene false in
local macro_rules | `(tactic| kspl_open gW) => `(tactic| ((with_reducible apply w_seq); (first | exact rfl | exact rd_hd rfl (by with_reducible assumption) | exact rds_hd1 rfl (by with_reducible assumption) | ((with_reducible apply rd_hd); exact rfl; ((repeat (first | (with_reducible refine Eq.trans (putA_ne ?_) ?_; with_reducible assumption) | (with_reducible refine Eq.trans (delA_ne ?_) ?_; with_reducible assumption))); first | with_reducible exact putA_same | with_reducible assumption)) | ((with_reducible apply rds_hd1); exact rfl; ((repeat (first | (with_reducible refine Eq.trans (putA_ne ?_) ?_; with_reducible assumption) | (with_reducible refine Eq.trans (delA_ne ?_) ?_; with_reducible assumption))); first | with_reducible exact putA_same | with_reducible assumption))); (first | exact rfl | exact rd_hd rfl (by with_reducible assumption) | exact rds_hd1 rfl (by with_reducible assumption) | ((with_reducible apply rd_hd); exact rfl; ((repeat (first | (with_reducible refine Eq.trans (putA_ne ?_) ?_; with_reducible assumption) | (with_reducible refine Eq.trans (delA_ne ?_) ?_; with_reducible assumption))); first | with_reducible exact putA_same | with_reducible assumption)) | ((with_reducible apply rds_hd1); exact rfl; ((repeat (first | (with_reducible refine Eq.trans (putA_ne ?_) ?_; with_reducible assumption) | (with_reducible refine Eq.trans (delA_ne ?_) ?_; with_reducible assumption))); first | with_reducible exact putA_same | with_reducible assumption)))))
set_option hygiene false in
local macro_rules | `(tactic| kspl_open gW) => `(tactic| (with_reducible apply w_Seq))
set_option hygiene false in
local macro_rules | `(tactic| tb_start) => `(tactic| ((with_reducible apply i_some); (first | decide | with_reducible assumption | omega | (simp only [List.length_map, List.length_append, List.length_cons, List.length_nil] at *; omega) | rotate_left); (first | decide | with_reducible assumption | omega | (simp only [List.length_map, List.length_append, List.length_cons, List.length_nil] at *; omega) | rotate_left); (first | decide | with_reducible assumption | omega | (simp only [List.length_map, List.length_append, List.length_cons, List.length_nil] at *; omega) | rotate_left); intro size bag hsize0 hsize1 hbag))
set_option hygiene false in
local macro_rules | `(tactic| tb_start) => `(tactic| ((with_reducible apply i_ranks); (first | decide | with_reducible assumption | omega | (simp only [List.length_map, List.length_append, List.length_cons, List.length_nil] at *; omega) | rotate_left); (first | decide | with_reducible assumption | omega | (simp only [List.length_map, List.length_append, List.length_cons, List.length_nil] at *; omega) | rotate_left); (first | decide | with_reducible assumption | omega | (simp only [List.length_map, List.length_append, List.length_cons, List.length_nil] at *; omega) | rotate_left); intro ranks bag hranksl hranksb hbag))
set_option hygiene false in
local macro_rules | `(tactic| tb_start) => `(tactic| ((with_reducible apply i_whole)))
set_option hygiene false in
local macro_rules | `(tactic| tb_start) => `(tactic| ((with_reducible apply i_sizeT); (first | decide | with_reducible assumption | omega | (simp only [List.length_map, List.length_append, List.length_cons, List.length_nil] at *; omega)); (first | decide | with_reducible assumption | omega | (simp only [List.length_map, List.length_append, List.length_cons, List.length_nil] at *; omega))))
set_option hygiene false in
local macro_rules | `(tactic| tb_start) => `(tactic| ((with_reducible apply i_isint1)))
set_option hygiene false in
local macro_rules | `(tactic| tb_start) => `(tactic| ((with_reducible apply i_Rranks)))
set_option hygiene false in
local macro_rules | `(tactic| tb_start) => `(tactic| ((with_reducible apply i_Rrepr); (first | decide | with_reducible assumption | omega | (simp only [List.length_map, List.length_append, List.length_cons, List.length_nil] at *; omega) | rotate_left); (first | decide | with_reducible assumption | omega | (simp only [List.length_map, List.length_append, List.length_cons, List.length_nil] at *; omega) | rotate_left)))
set_option hygiene false in
local macro_rules | `(tactic| tb_start) => `(tactic| ((with_reducible apply i_bag); intro bag hbag))
set_option hygiene false in
local macro_rules | `(tactic| tb_start) => `(tactic| ((with_reducible apply i_take); with_reducible assumption; (first | decide | omega | rotate_left); (first | decide | omega | rotate_left); intro drawn bag hdrawn0 hdrawn1 hbag))
set_option hygiene false in
local macro_rules | `(tactic| tb_rel) => `(tactic| ((with_reducible apply e_split2); (first | decide | with_reducible assumption | rotate_left); (first | decide | omega | rotate_left)))
set_option hygiene false in
local macro_rules | `(tactic| tb_rel) => `(tactic| ((with_reducible apply e_lenH); (first | decide | omega | rotate_left); (first | decide | omega | rotate_left)))
set_option hygiene false in
local macro_rules | `(tactic| tb_rel) => `(tactic| ((with_reducible apply p_CO); exact rfl; (first | (simp only [wipeD, putSt, List.set_cons_zero, List.set_cons_succ]; exact rfl) | exact rfl)))
set_option hygiene false in
local macro_rules | `(tactic| tb_rel) => `(tactic| ((with_reducible apply n_E); exact rfl; exact rfl))
set_option hygiene false in
local macro_rules | `(tactic| tb_rel) => `(tactic| ((with_reducible apply n_pd); exact rfl; intro cel cel1 cel2 cel3))
set_option hygiene false in
local macro_rules | `(tactic| tb_rel) => `(tactic| ((with_reducible apply n_p); exact rfl; intro cel cel1 cel2 cel3))
set_option hygiene false in
local macro_rules | `(tactic| tb_rel) => `(tactic| ((with_reducible apply n_f); exact rfl; exact rfl; exact rfl))
set_option hygiene false in
local macro_rules | `(tactic| tb_rel) => `(tactic| ((with_reducible apply e_makeH); exact rfl; intro hnd hndf))
set_option hygiene false in
local macro_rules | `(tactic| tb_rel) => `(tactic| ((with_reducible apply e_hnd); exact rfl; (first | with_reducible assumption | ((repeat (first | (with_reducible refine Eq.trans (putA_ne ?_) ?_; with_reducible assumption) | (with_reducible refine Eq.trans (delA_ne ?_) ?_; with_reducible assumption))); first | with_reducible exact putA_same | with_reducible assumption) | rotate_left); decide +kernel))
set_option hygiene false in
local macro_rules | `(tactic| tb_rel) => `(tactic| ((with_reducible apply e_poS); exact rfl; (first | with_reducible assumption | ((repeat (first | (with_reducible refine Eq.trans (putA_ne ?_) ?_; with_reducible assumption) | (with_reducible refine Eq.trans (delA_ne ?_) ?_; with_reducible assumption))); first | with_reducible exact putA_same | with_reducible assumption) | rotate_left); (first | (simp only [putSt]; exact rfl) | exact rfl | rotate_left)))
set_option hygiene false in
local macro_rules | `(tactic| tb_rel) => `(tactic| ((with_reducible apply i_indexK); exact rfl; exact rfl; decide +kernel; decide +kernel; (first | (exact (by decide +kernel : _ = some 0)) | exact (by decide +kernel : _ = some 1) | exact (by decide +kernel : _ = some 2) | exact (by decide +kernel : _ = some 3))))
set_option hygiene false in
local macro_rules | `(tactic| tb_rel) => `(tactic| ((with_reducible apply i_countK); exact rfl; exact rfl; decide +kernel; decide +kernel; (first | exact (by decide +kernel : _ = 1) | exact (by decide +kernel : _ = 0) | exact (by decide +kernel : _ = 2) | exact (by decide +kernel : _ = 3))))
set_option hygiene false in
local macro_rules | `(tactic| tb_rel) => `(tactic| ((with_reducible apply e_cnaD); exact rfl; exact rfl))
set_option hygiene false in
local macro_rules | `(tactic| tb_rel) => `(tactic| (with_reducible apply e_CountD))
set_option hygiene false in
local macro_rules | `(tactic| tb_rel) => `(tactic| ((with_reducible apply e_apH); exact rfl; (first | with_reducible assumption | ((repeat (first | (with_reducible refine Eq.trans (putA_ne ?_) ?_; with_reducible assumption) | (with_reducible refine Eq.trans (delA_ne ?_) ?_; with_reducible assumption))); first | with_reducible exact putA_same | with_reducible assumption) | rotate_left); exact rfl; (first | omega | with_reducible assumption | (simp only [List.length_map, List.length_append, List.length_cons, List.length_nil] at *; omega) | rotate_left); (first | (simp only [putSt]; exact rfl) | exact rfl | rotate_left)))
set_option hygiene false in
local macro_rules | `(tactic| tb_rel) => `(tactic| ((with_reducible apply e_muH); exact rfl; (first | with_reducible assumption | ((repeat (first | (with_reducible refine Eq.trans (putA_ne ?_) ?_; with_reducible assumption) | (with_reducible refine Eq.trans (delA_ne ?_) ?_; with_reducible assumption))); first | with_reducible exact putA_same | with_reducible assumption) | rotate_left)))
set_option hygiene false in
local macro_rules | `(tactic| tb_rel) => `(tactic| ((with_reducible apply e_fldP); exact rfl; (first | with_reducible assumption | ((repeat (first | (with_reducible refine Eq.trans (putA_ne ?_) ?_; with_reducible assumption) | (with_reducible refine Eq.trans (delA_ne ?_) ?_; with_reducible assumption))); first | with_reducible exact putA_same | with_reducible assumption) | rotate_left); (first | exact fld_1 | exact fld_2 (by decide +kernel) | exact fld_3 (by decide +kernel) (by decide +kernel) | exact fld_4 (by decide +kernel) (by decide +kernel) (by decide +kernel) | rotate_left)))
set_option hygiene false in
local macro_rules | `(tactic| tb_rel) => `(tactic| ((with_reducible apply e_fldH); exact rfl; (first | with_reducible assumption | ((repeat (first | (with_reducible refine Eq.trans (putA_ne ?_) ?_; with_reducible assumption) | (with_reducible refine Eq.trans (delA_ne ?_) ?_; with_reducible assumption))); first | with_reducible exact putA_same | with_reducible assumption) | rotate_left); (first | exact fld_1 | exact fld_2 (by decide +kernel) | exact fld_3 (by decide +kernel) (by decide +kernel) | exact fld_4 (by decide +kernel) (by decide +kernel) (by decide +kernel) | rotate_left)))
set_option hygiene false in
local macro_rules | `(tactic| tb_rel) => `(tactic| (with_reducible apply e_mkr))
set_option hygiene false in
local macro_rules | `(tactic| tb_rel) => `(tactic| (with_reducible apply e_join1))
set_option hygiene false in
local macro_rules | `(tactic| tb_rel) => `(tactic| (with_reducible apply e_Join))
set_option hygiene false in
local macro_rules | `(tactic| tb_rel) => `(tactic| (with_reducible apply e_split1))
set_option hygiene false in
local macro_rules | `(tactic| tb_rel) => `(tactic| (with_reducible apply e_Split))
set_option hygiene false in
local macro_rules | `(tactic| tb_rel) => `(tactic| (with_reducible apply e_LenE))
set_option hygiene false in
local macro_rules | `(tactic| tb_rel) => `(tactic| (with_reducible apply e_LenH))
set_option hygiene false in
local macro_rules | `(tactic| tb_rel) => `(tactic| (with_reducible apply t_FC))
set_option hygiene false in
local macro_rules | `(tactic| tb_rel) => `(tactic| (with_reducible apply t_FN))
set_option hygiene false in
local macro_rules | `(tactic| tb_rel) => `(tactic| (with_reducible apply s_ParF))
set_option hygiene false in
local macro_rules | `(tactic| tb_rel) => `(tactic| (with_reducible apply n_P))
set_option hygiene false in
local macro_rules | `(tactic| tb_rel) => `(tactic| (with_reducible apply n_F))
set_option hygiene false in
local macro_rules | `(tactic| tb_rel) => `(tactic| (with_reducible apply s_setFP))
set_option hygiene false in
local macro_rules | `(tactic| tb_rel) => `(tactic| (with_reducible apply s_SetFP))
set_option hygiene false in
local macro_rules | `(tactic| tb_rel) => `(tactic| (with_reducible apply e_MakeH))
set_option hygiene false in
local macro_rules | `(tactic| tb_rel) => `(tactic| (with_reducible apply e_Hnd))
set_option hygiene false in
local macro_rules | `(tactic| tb_rel) => `(tactic| (with_reducible apply e_MutH))
set_option hygiene false in
local macro_rules | `(tactic| tb_rel) => `(tactic| (with_reducible apply e_FldP))
set_option hygiene false in
local macro_rules | `(tactic| tb_rel) => `(tactic| (with_reducible apply e_FldH))
set_option hygiene false in
local macro_rules | `(tactic| tb_rel) => `(tactic| ((with_reducible apply s_rnpP); exact rfl; exact rfl; (first | (simp only [wipeD, putSt, List.set_cons_zero, List.set_cons_succ]; exact rfl) | exact rfl)))
set_option hygiene false in
local macro_rules | `(tactic| tb_rel) => `(tactic| ((with_reducible apply s_rnpF); exact rfl))
set_option hygiene false in
local macro_rules | `(tactic| tb_rel) => `(tactic| ((with_reducible apply s_npe); exact rfl))
set_option hygiene false in
local macro_rules | `(tactic| tb_rel) => `(tactic| ((with_reducible apply s_klk); exact rfl))
set_option hygiene false in
local macro_rules | `(tactic| tb_rel) => `(tactic| ((with_reducible apply s_kill); exact rfl))
set_option hygiene false in
local macro_rules | `(tactic| tb_rel) => `(tactic| (with_reducible apply s_npn))
set_option hygiene false in
local macro_rules | `(tactic| tb_rel) => `(tactic| ((with_reducible apply s_npw); (first | exact rfl | decide | (refine decide_eq_false ?_; omega) | rotate_left); exact rfl))
set_option hygiene false in
local macro_rules | `(tactic| tb_rel) => `(tactic| (with_reducible apply s_npv))
set_option hygiene false in
local macro_rules | `(tactic| tb_rel) => `(tactic| ((with_reducible apply s_npkV); (first | exact rfl | (simp only [boxE, boxS])); (first | (simp only [killE]; exact rfl) | exact rfl); (first | (simp only [List.set_cons_zero, List.set_cons_succ]; exact rfl) | exact rfl)))
set_option hygiene false in
local macro_rules | `(tactic| tb_rel) => `(tactic| ((with_reducible apply s_npk); (first | exact rfl | (simp only [boxE, boxS])); (first | (simp only [killE]; exact rfl) | exact rfl); (first | (simp only [List.set_cons_zero, List.set_cons_succ]; exact rfl) | exact rfl); first | decide | omega | (simp only [List.length_map, List.length_append, List.length_cons, List.length_nil] at *; omega) | rotate_left))
set_option hygiene false in
local macro_rules | `(tactic| tb_rel) => `(tactic| ((with_reducible apply e_lenset); exact rfl; first | exact Nat.lt_of_le_of_lt (difN_le _) (by omega) | omega | with_reducible assumption | (simp only [List.length_map, List.length_append, List.length_cons, List.length_nil] at *; omega) | rotate_left))
set_option hygiene false in
local macro_rules | `(tactic| tb_rel) => `(tactic| ((with_reducible apply w_down); first | omega | rotate_left))
set_option hygiene false in
local macro_rules | `(tactic| tb_rel) => `(tactic| ((with_reducible apply i_extend); first | decide | omega | (simp only [List.length_map, List.length_append, List.length_cons, List.length_nil] at *; omega) | rotate_left))
set_option hygiene false in
local macro_rules | `(tactic| tb_rel) => `(tactic| ((with_reducible apply p_MN); exact rfl))
set_option hygiene false in
local macro_rules | `(tactic| tb_rel) => `(tactic| (with_reducible apply s_ParE))
set_option hygiene false in
local macro_rules | `(tactic| tb_rel) => `(tactic| (with_reducible apply e_Dc))
set_option hygiene false in
local macro_rules | `(tactic| tb_rel) => `(tactic| (with_reducible apply e_Lst3))
set_option hygiene false in
local macro_rules | `(tactic| tb_rel) => `(tactic| (with_reducible apply e_DictS))
set_option hygiene false in
local macro_rules | `(tactic| tb_rel) => `(tactic| (with_reducible apply e_ListZip))
set_option hygiene false in
local macro_rules | `(tactic| tb_rel) => `(tactic| ((with_reducible apply e_gna); exact rfl; exact rfl))
set_option hygiene false in
local macro_rules | `(tactic| tb_rel) => `(tactic| (with_reducible apply e_DGetN))
set_option hygiene false in
local macro_rules | `(tactic| tb_rel) => `(tactic| ((with_reducible apply e_maX); exact rfl; (first | (simp only [wipeD, putSt, List.set_cons_zero, List.set_cons_succ]; exact rfl) | exact rfl)))
set_option hygiene false in
local macro_rules | `(tactic| tb_rel) => `(tactic| ((with_reducible apply e_makeX); exact rfl; (first | exact rfl | decide); exact rfl))
set_option hygiene false in
local macro_rules | `(tactic| tb_rel) => `(tactic| ((with_reducible apply u_nk); exact rfl; (first | (simp only [wipeD, putSt, List.set_cons_zero, List.set_cons_succ]; exact rfl) | exact rfl)))
set_option hygiene false in
local macro_rules | `(tactic| tb_rel) => `(tactic| ((with_reducible apply y_F); (first | exact rfl | decide +kernel)))
set_option hygiene false in
local macro_rules | `(tactic| tb_rel) => `(tactic| ((with_reducible apply y_T); (first | exact rfl | decide +kernel); intro xa))
set_option hygiene false in
local macro_rules | `(tactic| tb_rel) => `(tactic| ((with_reducible apply x_F); (first | exact rfl | decide +kernel)))
set_option hygiene false in
local macro_rules | `(tactic| tb_rel) => `(tactic| ((with_reducible apply x_T); (first | exact rfl | decide +kernel); exact rfl; intro xa xG hxG; simp only [List.set_cons_zero, List.set_cons_succ] at hxG; subst hxG))
set_option hygiene false in
local macro_rules | `(tactic| tb_rel) => `(tactic| ((with_reducible apply d_x); exact rfl))
set_option hygiene false in
local macro_rules | `(tactic| tb_rel) => `(tactic| ((with_reducible apply s_raise); exact rfl; exact rfl; (simp only [List.length_cons, List.length_nil]; omega); exact rfl; exact rfl))
set_option hygiene false in
local macro_rules | `(tactic| tb_rel) => `(tactic| ((with_reducible apply e_xt); exact rfl; (first | (simp only [wipeD, putSt, List.set_cons_zero, List.set_cons_succ]; exact rfl) | exact rfl)))
set_option hygiene false in
local macro_rules | `(tactic| tb_rel) => `(tactic| ((with_reducible apply e_callX); exact rfl; (first | exact rfl | decide); exact rfl))
set_option hygiene false in
local macro_rules | `(tactic| tb_rel) => `(tactic| (with_reducible apply e_CallE))
set_option hygiene false in
local macro_rules | `(tactic| tb_rel) => `(tactic| ((with_reducible apply b_rt); exact rfl; exact rfl))
set_option hygiene false in
local macro_rules | `(tactic| tb_rel) => `(tactic| ((with_reducible apply b_nx); exact rfl))
set_option hygiene false in
local macro_rules | `(tactic| tb_rel) => `(tactic| ((with_reducible apply s_scr); exact rfl; (simp only [List.length_cons, List.length_nil]; omega); (first | exact rfl | (simp only [freeE, Bool.and_eq_true, Bool.and_true]; (repeat' constructor) <;> first | rfl | assumption)); decide; (first | (simp only [killE]; exact rfl) | exact rfl); (first | (simp only [boxE, boxS, List.set_cons_zero, List.set_cons_succ]; exact rfl) | exact rfl); rotate_left))
set_option hygiene false in
local macro_rules | `(tactic| tb_rel) => `(tactic| ((with_reducible apply e_bor); exact rfl))
set_option hygiene false in
local macro_rules | `(tactic| tb_rel) => `(tactic| (with_reducible apply e_eqk))
set_option hygiene false in
local macro_rules | `(tactic| tb_rel) => `(tactic| (with_reducible apply e_eqkT))
set_option hygiene false in
local macro_rules | `(tactic| tb_rel) => `(tactic| (with_reducible apply e_eqkF))
set_option hygiene false in
local macro_rules | `(tactic| tb_rel) => `(tactic| (with_reducible apply e_eqkI))
set_option hygiene false in
local macro_rules | `(tactic| tb_rel) => `(tactic| ((with_reducible apply i_insert0); first | decide | omega | rotate_left))
set_option hygiene false in
local macro_rules | `(tactic| tb_rel) => `(tactic| ((with_reducible apply i_popI); omega; omega; omega))
set_option hygiene false in
local macro_rules | `(tactic| tb_rel) => `(tactic| ((with_reducible apply e_js); rotate_left))
set_option hygiene false in
local macro_rules | `(tactic| tb_rel) => `(tactic| (with_reducible apply e_Js))
set_option hygiene false in
local macro_rules | `(tactic| tb_rel) => `(tactic| (with_reducible apply e_jsN))
set_option hygiene false in
local macro_rules | `(tactic| tb_rel) => `(tactic| ((with_reducible apply lnk_in); (first | omega | rotate_left); (first | omega | rotate_left)))
set_option hygiene false in
local macro_rules | `(tactic| tb_rel) => `(tactic| (with_reducible apply rpk_in))
set_option hygiene false in
local macro_rules | `(tactic| tb_rel) => `(tactic| ((with_reducible apply s_av); (first | exact rfl | assumption); (first | (simp only [wipeD, putSt, List.set_cons_zero, List.set_cons_succ]; exact rfl) | exact rfl)))
set_option hygiene false in
local macro_rules | `(tactic| tb_rel) => `(tactic| (with_reducible apply e_rg2))
set_option hygiene false in
local macro_rules | `(tactic| tb_rel) => `(tactic| (with_reducible apply e_Rg2))
set_option hygiene false in
local macro_rules | `(tactic| tb_rel) => `(tactic| (with_reducible apply e_orv))
set_option hygiene false in
local macro_rules | `(tactic| tb_rel) => `(tactic| (with_reducible apply i_clear))
set_option hygiene false in
local macro_rules | `(tactic| tb_rel) => `(tactic| (with_reducible apply i_reverse))
set_option hygiene false in
local macro_rules | `(tactic| tb_rel) => `(tactic| ((with_reducible apply i_catA); first | (simp only [List.length_map, List.length_append, List.length_cons, List.length_nil] at *; omega) | rotate_left))
set_option hygiene false in
local macro_rules | `(tactic| tb_rel) => `(tactic| (with_reducible apply e_and))
set_option hygiene false in
local macro_rules | `(tactic| tb_rel) => `(tactic| ((with_reducible apply e_lensetS); exact rfl; first | omega | with_reducible assumption | rotate_left))
set_option hygiene false in
local macro_rules | `(tactic| tb_rel) => `(tactic| ((with_reducible apply s_a3); exact rfl; (first | exact ixN_0 | exact ixN_1 | exact ixN_2 | exact ixN_3 | exact ixN_pos (by omega) (by omega)); exact rfl; (first | (simp only [wipeD, putSt, List.set_cons_zero, List.set_cons_succ]; exact rfl) | exact rfl)))
set_option hygiene false in
local macro_rules | `(tactic| tb_rel) => `(tactic| ((with_reducible apply e_sl); (first | exact rfl | exact rd_hd rfl (by with_reducible assumption) | exact rds_hd1 rfl (by with_reducible assumption) | ((with_reducible apply rd_hd); exact rfl; ((repeat (first | (with_reducible refine Eq.trans (putA_ne ?_) ?_; with_reducible assumption) | (with_reducible refine Eq.trans (delA_ne ?_) ?_; with_reducible assumption))); first | with_reducible exact putA_same | with_reducible assumption)) | ((with_reducible apply rds_hd1); exact rfl; ((repeat (first | (with_reducible refine Eq.trans (putA_ne ?_) ?_; with_reducible assumption) | (with_reducible refine Eq.trans (delA_ne ?_) ?_; with_reducible assumption))); first | with_reducible exact putA_same | with_reducible assumption)))))
set_option hygiene false in
local macro_rules | `(tactic| tb_rel) => `(tactic| (with_reducible apply e_part))
set_option hygiene false in
local macro_rules | `(tactic| tb_rel) => `(tactic| (with_reducible apply e_Part))
set_option hygiene false in
local macro_rules | `(tactic| tb_rel) => `(tactic| (with_reducible apply e_noP))
set_option hygiene false in
local macro_rules | `(tactic| tb_rel) => `(tactic| (with_reducible apply e_not))
set_option hygiene false in
local macro_rules | `(tactic| tb_rel) => `(tactic| (with_reducible apply e_or))
set_option hygiene false in
local macro_rules | `(tactic| tb_rel) => `(tactic| ((with_reducible apply e_mak); exact rfl; (first | (simp only [wipeD, putSt, List.set_cons_zero, List.set_cons_succ]; exact rfl) | exact rfl)))
set_option hygiene false in
local macro_rules | `(tactic| tb_rel) => `(tactic| ((with_reducible apply e_make); exact rfl; (first | exact rfl | decide); exact rfl))
set_option hygiene false in
local macro_rules | `(tactic| tb_rel) => `(tactic| ((with_reducible apply e_op1); (first | exact rfl | exact rd_hd rfl (by with_reducible assumption) | exact rds_hd1 rfl (by with_reducible assumption) | ((with_reducible apply rd_hd); exact rfl; ((repeat (first | (with_reducible refine Eq.trans (putA_ne ?_) ?_; with_reducible assumption) | (with_reducible refine Eq.trans (delA_ne ?_) ?_; with_reducible assumption))); first | with_reducible exact putA_same | with_reducible assumption)) | ((with_reducible apply rds_hd1); exact rfl; ((repeat (first | (with_reducible refine Eq.trans (putA_ne ?_) ?_; with_reducible assumption) | (with_reducible refine Eq.trans (delA_ne ?_) ?_; with_reducible assumption))); first | with_reducible exact putA_same | with_reducible assumption)))))
set_option hygiene false in
local macro_rules | `(tactic| tb_rel) => `(tactic| (with_reducible apply e_rg1))
set_option hygiene false in
local macro_rules | `(tactic| tb_rel) => `(tactic| (with_reducible apply e_Rg1))
set_option hygiene false in
local macro_rules | `(tactic| tb_rel) => `(tactic| (with_reducible apply i_slT))
set_option hygiene false in
local macro_rules | `(tactic| tb_rel) => `(tactic| (with_reducible apply i_slC))
set_option hygiene false in
local macro_rules | `(tactic| tb_rel) => `(tactic| (with_reducible apply i_slL))
set_option hygiene false in
local macro_rules | `(tactic| tb_rel) => `(tactic| (with_reducible apply i_sl1))
set_option hygiene false in
local macro_rules | `(tactic| tb_rel) => `(tactic| ((with_reducible apply e_BorTs); (first | (simp only [allSh, shS, List.map_cons, List.map_nil]; exact rfl) | exact rfl)))
set_option hygiene false in
local macro_rules | `(tactic| tb_rel) => `(tactic| ((with_reducible apply c_ik); exact rfl; (first | omega | (simp only [List.length_append, List.length_cons, List.length_nil, List.length_map] at *; omega) | rotate_left); (first | (simp only [restD, putSt, List.set_cons_zero, List.set_cons_succ, List.getElem?_cons_zero, List.getElem?_cons_succ, Option.getD_some]; exact rfl) | exact rfl)))
set_option hygiene false in
local macro_rules | `(tactic| tb_rel) => `(tactic| ((with_reducible apply s_par3); exact rfl))
set_option hygiene false in
local macro_rules | `(tactic| tb_rel) => `(tactic| ((with_reducible apply i_append); first | decide | omega | (simp only [List.length_map, List.length_append, List.length_cons, List.length_nil] at *; omega) | rotate_left))
set_option hygiene false in
local macro_rules | `(tactic| tb_rel) => `(tactic| ((with_reducible apply i_appendI); first | omega | (simp only [List.length_append, List.length_cons, List.length_nil] at *; omega) | rotate_left))
set_option hygiene false in
local macro_rules | `(tactic| tb_rel) => `(tactic| ((with_reducible apply e_st); exact rfl; (first | (simp only [wipeD, putSt, List.set_cons_zero, List.set_cons_succ]; exact rfl) | exact rfl)))
set_option hygiene false in
local macro_rules | `(tactic| tb_rel) => `(tactic| ((with_reducible apply e_tup); exact rfl; first | decide | (simp only [List.length_cons, List.length_nil]; omega) | rotate_left))
set_option hygiene false in
local macro_rules | `(tactic| tb_rel) => `(tactic| ((with_reducible apply i_st); first | exact ixN_0 | exact ixN_1 | exact ixN_2 | exact ixN_3 | exact ixN_pos (by omega) (by omega)))
set_option hygiene false in
local macro_rules | `(tactic| tb_rel) => `(tactic| ((with_reducible apply i_stP); omega; (first | omega | (simp only [List.length_set]; omega))))
set_option hygiene false in
local macro_rules | `(tactic| tb_rel) => `(tactic| ((with_reducible apply i_stN); (first | omega | (simp only [List.length_set]; omega))))
set_option hygiene false in
local macro_rules | `(tactic| tb_rel) => `(tactic| ((with_reducible apply g_set); exact rfl; (first | (simp only [wipeD, putSt, List.set_cons_zero, List.set_cons_succ]; exact rfl) | exact rfl)))
set_option hygiene false in
local macro_rules | `(tactic| tb_rel) => `(tactic| ((with_reducible apply gkX); tb_start))
set_option hygiene false in
local macro_rules | `(tactic| tb_rel) => `(tactic| ((with_reducible apply gkW); kspl_open gW))
set_option hygiene false in
local macro_rules | `(tactic| tb_rel) => `(tactic| ((with_reducible apply gkL); kspl_open gL))
set_option hygiene false in
local macro_rules | `(tactic| tb_rel) => `(tactic| ((with_reducible apply gkB); kspl_open gB))
set_option hygiene false in
local macro_rules | `(tactic| tb_rel) => `(tactic| ((with_reducible apply gkS); row_hasAny gS))
set_option hygiene false in
local macro_rules | `(tactic| tb_rel) => `(tactic| ((with_reducible apply gkE); row_readAll gE))
set_option hygiene false in
local macro_rules | `(tactic| tb_rel) => `(tactic| ((with_reducible apply gkO); kspl_open gO))
set_option hygiene false in
local macro_rules | `(tactic| tb_rel) => `(tactic| ((with_reducible apply gkT); row_hasAny gT))
set_option hygiene false in
local macro_rules | `(tactic| tb_rel) => `(tactic| ((with_reducible apply c_fk); exact rfl; (first | (simp only [restD, putSt, List.set_cons_zero, List.set_cons_succ, List.getElem?_cons_zero, List.getElem?_cons_succ, Option.getD_some]; exact rfl) | exact rfl)))
set_option hygiene false in
local macro_rules | `(tactic| tb_rel) => `(tactic| (with_reducible apply e_yes))
set_option hygiene false in
local macro_rules | `(tactic| tb_rel) => `(tactic| ((with_reducible apply e_lst); exact rfl; first | decide | (simp only [List.length_cons, List.length_nil]; omega) | rotate_left))
set_option hygiene false in
local macro_rules | `(tactic| tb_rel) => `(tactic| (with_reducible apply e_andv))
set_option hygiene false in
local macro_rules | `(tactic| tb_rel) => `(tactic| ((with_reducible apply e_cb); (first | exact rfl | exact rd_hd rfl (by with_reducible assumption) | exact rds_hd1 rfl (by with_reducible assumption) | ((with_reducible apply rd_hd); exact rfl; ((repeat (first | (with_reducible refine Eq.trans (putA_ne ?_) ?_; with_reducible assumption) | (with_reducible refine Eq.trans (delA_ne ?_) ?_; with_reducible assumption))); first | with_reducible exact putA_same | with_reducible assumption)) | ((with_reducible apply rds_hd1); exact rfl; ((repeat (first | (with_reducible refine Eq.trans (putA_ne ?_) ?_; with_reducible assumption) | (with_reducible refine Eq.trans (delA_ne ?_) ?_; with_reducible assumption))); first | with_reducible exact putA_same | with_reducible assumption)))))
set_option hygiene false in
local macro_rules | `(tactic| tb_rel) => `(tactic| (with_reducible apply e_tst))
set_option hygiene false in
local macro_rules | `(tactic| tb_rel) => `(tactic| (with_reducible apply e_test))
set_option hygiene false in
local macro_rules | `(tactic| tb_rel) => `(tactic| ((with_reducible apply e_call); exact rfl; (first | exact rfl | decide); exact rfl))
set_option hygiene false in
local macro_rules | `(tactic| tb_rel) => `(tactic| ((with_reducible apply d_np); exact rfl))
set_option hygiene false in
local macro_rules | `(tactic| tb_rel) => `(tactic| ((with_reducible apply d_pl); exact rfl; exact rfl))
set_option hygiene false in
local macro_rules | `(tactic| tb_rel) => `(tactic| ((with_reducible apply d_fr); exact rfl))
set_option hygiene false in
local macro_rules | `(tactic| tb_rel) => `(tactic| ((with_reducible apply d_val); exact rfl))
set_option hygiene false in
local macro_rules | `(tactic| tb_rel) => `(tactic| ((with_reducible apply e_ptF); exact rfl; (first | (simp only [wipeD, putSt, List.set_cons_zero, List.set_cons_succ]; exact rfl) | exact rfl); first | exact rfl | exact bag_frD (by assumption)))
set_option hygiene false in
local macro_rules | `(tactic| tb_rel) => `(tactic| ((with_reducible apply e_ptN); exact rfl; (first | (simp only [wipeD, putSt, List.set_cons_zero, List.set_cons_succ]; exact rfl) | exact rfl)))
set_option hygiene false in
local macro_rules | `(tactic| tb_rel) => `(tactic| ((with_reducible apply e_ptV); exact rfl; (first | (simp only [wipeD, putSt, List.set_cons_zero, List.set_cons_succ]; exact rfl) | exact rfl)))
set_option hygiene false in
local macro_rules | `(tactic| tb_rel) => `(tactic| ((with_reducible apply i_ixT); first | exact atI_ints (by omega)))
set_option hygiene false in
local macro_rules | `(tactic| tb_rel) => `(tactic| ((with_reducible apply i_ix); first | exact atI_ints (by omega)))
set_option hygiene false in
local macro_rules | `(tactic| tb_rel) => `(tactic| ((with_reducible apply i_ixT); first | exact atI_0 | exact atI_1 | exact atI_2 | exact atI_3))
set_option hygiene false in
local macro_rules | `(tactic| tb_rel) => `(tactic| ((with_reducible apply i_ix); first | exact atI_0 | exact atI_1 | exact atI_2 | exact atI_3))
set_option hygiene false in
local macro_rules | `(tactic| tb_rel) => `(tactic| ((with_reducible apply e_nF); first | with_reducible assumption | omega | with_reducible rfl))
set_option hygiene false in
local macro_rules | `(tactic| tb_rel) => `(tactic| ((with_reducible apply e_nT); first | with_reducible assumption | omega | with_reducible rfl))
set_option hygiene false in
local macro_rules | `(tactic| tb_rel) => `(tactic| ((with_reducible apply e_dF); first | with_reducible assumption | omega | with_reducible rfl))
set_option hygiene false in
local macro_rules | `(tactic| tb_rel) => `(tactic| ((with_reducible apply e_dT); first | with_reducible assumption | omega | with_reducible rfl))
set_option hygiene false in
local macro_rules | `(tactic| tb_rel) => `(tactic| (with_reducible apply e_nFf))
set_option hygiene false in
local macro_rules | `(tactic| tb_rel) => `(tactic| (with_reducible apply e_nTt))
set_option hygiene false in
local macro_rules | `(tactic| tb_rel) => `(tactic| (with_reducible apply e_Ff))
set_option hygiene false in
local macro_rules | `(tactic| tb_rel) => `(tactic| (with_reducible apply e_Tt))
set_option hygiene false in
local macro_rules | `(tactic| tb_rel) => `(tactic| (with_reducible apply s_seq))
set_option hygiene false in
local macro_rules | `(tactic| tb_rel) => `(tactic| (with_reducible apply e_nil))
set_option hygiene false in
local macro_rules | `(tactic| tb_rel) => `(tactic| (with_reducible apply e_C))
set_option hygiene false in
local macro_rules | `(tactic| tb_rel) => `(tactic| (with_reducible apply e_cons))
set_option hygiene false in
local macro_rules | `(tactic| tb_rel) => `(tactic| (with_reducible apply e_op))
set_option hygiene false in
local macro_rules | `(tactic| tb_rel) => `(tactic| ((with_reducible apply e_op2); (first | exact rfl | exact rd_hd rfl (by with_reducible assumption) | exact rds_hd1 rfl (by with_reducible assumption) | ((with_reducible apply rd_hd); exact rfl; ((repeat (first | (with_reducible refine Eq.trans (putA_ne ?_) ?_; with_reducible assumption) | (with_reducible refine Eq.trans (delA_ne ?_) ?_; with_reducible assumption))); first | with_reducible exact putA_same | with_reducible assumption)) | ((with_reducible apply rds_hd1); exact rfl; ((repeat (first | (with_reducible refine Eq.trans (putA_ne ?_) ?_; with_reducible assumption) | (with_reducible refine Eq.trans (delA_ne ?_) ?_; with_reducible assumption))); first | with_reducible exact putA_same | with_reducible assumption))); (first | exact rfl | exact rd_hd rfl (by with_reducible assumption) | exact rds_hd1 rfl (by with_reducible assumption) | ((with_reducible apply rd_hd); exact rfl; ((repeat (first | (with_reducible refine Eq.trans (putA_ne ?_) ?_; with_reducible assumption) | (with_reducible refine Eq.trans (delA_ne ?_) ?_; with_reducible assumption))); first | with_reducible exact putA_same | with_reducible assumption)) | ((with_reducible apply rds_hd1); exact rfl; ((repeat (first | (with_reducible refine Eq.trans (putA_ne ?_) ?_; with_reducible assumption) | (with_reducible refine Eq.trans (delA_ne ?_) ?_; with_reducible assumption))); first | with_reducible exact putA_same | with_reducible assumption)))))
set_option hygiene false in
local macro_rules | `(tactic| tb_rel) => `(tactic| (with_reducible apply v_bo))
set_option hygiene false in
local macro_rules | `(tactic| tb_rel) => `(tactic| (with_reducible apply v_ow))
set_option hygiene false in
local macro_rules | `(tactic| tb_rel) => `(tactic| (with_reducible apply v_io))
set_option hygiene false in
local macro_rules | `(tactic| tb_rel) => `(tactic| (with_reducible apply v_sh))
set_option hygiene false in
local macro_rules | `(tactic| tb_rel) => `(tactic| ((with_reducible apply e_V); exact rfl))
local macro_rules | `(tactic| lcg_sub) => `(tactic| repeat tb_rel)
set_option hygiene false in
local macro_rules | `(tactic| lcg_off) => `(tactic| repeat' (first | tb_rel | ((with_reducible apply gkP); first | (with_reducible refine e_dif (fun hcond => ?_) (fun hcond => ?_)) | (with_reducible refine e_nif (fun hcond => ?_) (fun hcond => ?_)) | (with_reducible refine e_ite (fun hcond => ?_) (fun hcond => ?_)))))
local macro_rules | `(tactic| lcg_src) => `(tactic| (rw [endsD_mk]; simp only [startD, env0, sl0, List.length_cons, List.length_nil, Nat.reduceAdd, Nat.reduceSub, List.replicate, List.cons_append, List.nil_append]))
/-- how a ring is told -/
def ringT (l : List Int) : Str := ("Ring(" : Str) ++ (toPy (iL l)).shown ++ (")" : Str)
theorem empty_app (x : Str) : Str.empty ++ x = x := by
  show (⟨#[] ++ x.cps⟩ : Str) = x
  rw [Array.empty_append]
theorem shown_len {l : List Int} (h : ∀ x ∈ l, x.natAbs < 2 ^ 256) (hl : l.length ≤ 100) : (toPy (iL l)).shown.length ≤ 26000 := by
  have n := (nice_ok (k := 256) (by decide) (by decide) (iL l) (by rw [niceD]; exact nices_ints h)).2.2.2.2.2.2
  rw [wtD, wts_ints] at n
  omega
theorem ringT_ok {l : List Int} (h : ∀ x ∈ l, x.natAbs < 2 ^ 256) : PyData.strOk (ringT l) = true := by
  unfold ringT
  exact strOk_app (strOk_app (strOk_of _) (nice_ok (k := 256) (by decide) (by decide) (iL l) (by rw [niceD]; exact nices_ints h)).2.2.2.2.2.1) (strOk_of _)
def sRing___repr__ (C : Addr) : DSp := fun ds Q _ => ∃ l : List Int, ds = [ringD C l] ∧ (∀ x ∈ l, x.natAbs < 2 ^ 256) ∧ l.length ≤ 100 ∧ Q false (.str (ringT l)) []
theorem i_Rrepr {C : Addr} {l : List Int} {Q : Bool → D → List D → Prop} {E : EdT} (h1 : ∀ x ∈ l, x.natAbs < 2 ^ 256) (h2 : l.length ≤ 100) (h : Q false (.str (ringT l)) []) : sRing___repr__ C [ringD C l] Q E := ⟨l, rfl, h1, h2, h⟩
/-- equal data are alike -/
def slaw_alike : DSp := fun ds Q _ => ∃ a b : D, ds = [a, b] ∧ a = b ∧ NiceD a ∧ Q false (.bl true) []
def sRing_ranks (C : Addr) : DSp := fun ds Q _ => ∃ l : List Int, ds = [ringD C l] ∧ Q true (.lst (l.map D.int)) []
theorem i_Rranks {C : Addr} {l : List Int} {Q : Bool → D → List D → Prop} {E : EdT} (h : Q true (.lst (l.map D.int)) []) : sRing_ranks C [ringD C l] Q E := ⟨l, rfl, h⟩
/-- an int that is no truth value -/
def isIntD : D → Bool
  | .int _ => true
  | _ => false
def sis_integer : DSp := fun ds Q _ => ∃ d, ds = [d] ∧ (tyN d).isSome = true ∧ Q false (.bl (isIntD d)) []
theorem i_isint {d : D} {Q : Bool → D → List D → Prop} {E : EdT} (h1 : (tyN d).isSome = true) (h : Q false (.bl (isIntD d)) []) : sis_integer [d] Q E := ⟨d, rfl, h1, h⟩
theorem i_isint1 {i : Int} {Q : Bool → D → List D → Prop} {E : EdT} (h : Q false (.bl true) []) : sis_integer [.int i] Q E := ⟨_, rfl, rfl, h⟩
def btwD (lo hi : Int) : D → Bool
  | .int i => decide (lo ≤ i) && decide (i ≤ hi)
  | _ => false
def sis_between : DSp := fun ds Q _ => ∃ d lo hi, ds = [d, .int lo, .int hi] ∧ (tyN d).isSome = true ∧ Q false (.bl (btwD lo hi d)) []
theorem i_btw {d : D} {lo hi : Int} {Q : Bool → D → List D → Prop} {E : EdT} (h1 : (tyN d).isSome = true) (h : Q false (.bl (btwD lo hi d)) []) : sis_between [d, .int lo, .int hi] Q E := ⟨d, lo, hi, rfl, h1, h⟩
def sis_size : DSp := fun ds Q _ => ∃ d, ds = [d] ∧ (tyN d).isSome = true ∧ Q false (.bl (btwD 2 12 d)) []
theorem i_size {d : D} {Q : Bool → D → List D → Prop} {E : EdT} (h1 : (tyN d).isSome = true) (h : Q false (.bl (btwD 2 12 d)) []) : sis_size [d] Q E := ⟨d, rfl, h1, h⟩
theorem i_sizeT {i : Int} {Q : Bool → D → List D → Prop} {E : EdT} (h1 : 2 ≤ i) (h2 : i ≤ 12) (h : Q false (.bl true) []) : sis_size [.int i] Q E := ⟨_, rfl, rfl, by rw [btwD, decide_eq_true h1, decide_eq_true h2]; exact h⟩
/-- a thing of any kind that may be printed; ints below 2 ^ j -/
structure AskJ (j : Nat) (d : D) : Prop where
  ty : (tyN d).isSome = true
  nz : niceZ j d = true
  deep : (toPy d).depth ≤ 15
  wt : wtZ 256 d ≤ 1005
  tx : ∀ x, d = .str x → x.length ≤ 100
mutual
theorem niceZ_mono {j k : Nat} (h : j ≤ k) : ∀ d : D, niceZ j d = true → niceZ k d = true
  | .non, _ => rfl
  | .bl _, _ => rfl
  | .int i, e => by rw [niceZ, decide_eq_true_eq] at *; exact Nat.lt_of_lt_of_le e (Nat.pow_le_pow_right (by decide) h)
  | .str _, e => by rw [niceZ] at *; exact e
  | .lst ds, e => by rw [niceZ] at *; exact niceZs_mono h ds e
  | .tup ds, e => by rw [niceZ] at *; exact niceZs_mono h ds e
  | .dic ds, e => by rw [niceZ] at *; exact niceZk_mono h ds e
  | .dkl ds, e => by rw [niceZ] at *; exact niceZk_mono h ds e
  | .scr _, e => by simp [niceZ] at e
  | .dit _, e => by simp [niceZ] at e
  | .dtl _, e => by simp [niceZ] at e
  | .pnK _ _, e => by simp [niceZ] at e
  | .pnT _ _, e => by simp [niceZ] at e
  | .obj _ _ _, e => by simp [niceZ] at e
  | .cls _, e => by simp [niceZ] at e
  | .xcl _ _, e => by simp [niceZ] at e
  | .sto _, e => by simp [niceZ] at e
theorem niceZs_mono {j k : Nat} (h : j ≤ k) : ∀ ds : List D, niceZs j ds = true → niceZs k ds = true
  | [], _ => rfl
  | d :: ds, e => by
    rw [niceZs, Bool.and_eq_true] at *
    exact ⟨niceZ_mono h d e.1, niceZs_mono h ds e.2⟩
theorem niceZk_mono {j k : Nat} (h : j ≤ k) : ∀ ds : List (L2.Key × D), niceZk j ds = true → niceZk k ds = true
  | [], _ => rfl
  | (.inl i, d) :: ds, e => by
    rw [niceZk, Bool.and_eq_true, Bool.and_eq_true, decide_eq_true_eq] at *
    exact ⟨⟨Nat.lt_of_lt_of_le e.1.1 (Nat.pow_le_pow_right (by decide) h), niceZ_mono h d e.1.2⟩, niceZk_mono h ds e.2⟩
  | (.inr x, d) :: ds, e => by
    rw [niceZk, Bool.and_eq_true, Bool.and_eq_true] at *
    exact ⟨⟨e.1.1, niceZ_mono h d e.1.2⟩, niceZk_mono h ds e.2⟩
end
theorem AskJ.mono {j k : Nat} {d : D} (h : AskJ j d) (e : j ≤ k) : AskJ k d := ⟨h.ty, niceZ_mono e d h.nz, h.deep, h.wt, h.tx⟩
theorem AskJ.nice {j : Nat} {d : D} (h : AskJ j d) (hj : j ≤ 256) : NiceZ d := ⟨niceZ_mono hj d h.nz, by have := h.deep; omega, by have := h.wt; omega⟩
theorem AskJ.int {j : Nat} {i : Int} (h : i.natAbs < 2 ^ j) : AskJ j (.int i) := ⟨rfl, by rw [niceZ]; exact decide_eq_true h, by simp [toPy, PyData.depth], by simp [wtZ], fun x e => by cases e⟩
theorem AskJ.str {j : Nat} {x : Str} (h : PyData.strOk x = true) (hl : x.length ≤ 100) : AskJ j (.str x) := ⟨rfl, by rw [niceZ]; exact h, by simp [toPy, PyData.depth], by rw [wtZ]; omega, fun y e => by cases e; exact hl⟩
theorem niceZ_ty {j : Nat} {d : D} (h : niceZ j d = true) : (tyN d).isSome = true := by
  cases d <;> first | rfl | simp [niceZ] at h
theorem AskJ.of {j : Nat} {d : D} (h : niceZ j d = true) (h1 : (toPy d).depth ≤ 15) (h2 : wtZ 256 d ≤ 1005) : AskJ j d := ⟨niceZ_ty h, h, h1, h2, fun x e => by rw [e, wtZ] at h2; omega⟩
theorem niceZs_mem {j : Nat} : ∀ {ds : List D}, niceZs j ds = true → ∀ x ∈ ds, niceZ j x = true ∧ (toPy x).depth ≤ PyData.depthAll (toPys ds) ∧ wtZ 256 x ≤ wtZs 256 ds
  | [], _, x, h => by cases h
  | d :: ds, e, x, h => by
    rw [niceZs, Bool.and_eq_true] at e
    rw [toPys, PyData.depthAll, wtZs]
    rcases List.mem_cons.mp h with rfl | h
    · exact ⟨e.1, by omega, by omega⟩
    · obtain ⟨a, b, c⟩ := niceZs_mem e.2 x h
      exact ⟨a, by omega, by omega⟩
theorem AskJ.lmem {j : Nat} {ds : List D} (h : AskJ j (.lst ds)) : ∀ x ∈ ds, AskJ j x := fun x hx => by
  have e := h.nz; have h1 := h.deep; have h2 := h.wt
  rw [niceZ] at e
  rw [toPy, PyData.depth] at h1
  rw [wtZ] at h2
  obtain ⟨a, b, c⟩ := niceZs_mem e x hx
  exact .of a (by omega) (by omega)
theorem AskJ.tmem {j : Nat} {ds : List D} (h : AskJ j (.tup ds)) : ∀ x ∈ ds, AskJ j x := fun x hx => by
  have e := h.nz; have h1 := h.deep; have h2 := h.wt
  rw [niceZ] at e
  rw [toPy, PyData.depth] at h1
  rw [wtZ] at h2
  obtain ⟨a, b, c⟩ := niceZs_mem e x hx
  exact .of a (by omega) (by omega)
theorem wtZs_len : ∀ ds : List D, 2 * ds.length ≤ wtZs 256 ds
  | [] => Nat.le_refl _
  | d :: ds => by have := wtZs_len ds; rw [wtZs, List.length_cons]; omega
theorem AskJ.llen {j : Nat} {ds : List D} (h : AskJ j (.lst ds)) : ds.length ≤ 200 := by
  have h2 := h.wt
  rw [wtZ] at h2
  have : ∀ es : List D, 6 * es.length ≤ wtZs 256 es := fun es => by
    induction es with
    | nil => exact Nat.le_refl _
    | cons e es ih =>
      have : 4 ≤ wtZ 256 e := by cases e <;> simp only [wtZ] <;> omega
      rw [wtZs, List.length_cons]; omega
  have := this ds
  omega
theorem AskJ.tlen {j : Nat} {ds : List D} (h : AskJ j (.tup ds)) : ds.length ≤ 200 := by
  have h2 := h.wt
  rw [wtZ] at h2
  have : ∀ es : List D, 6 * es.length ≤ wtZs 256 es := fun es => by
    induction es with
    | nil => exact Nat.le_refl _
    | cons e es ih =>
      have : 4 ≤ wtZ 256 e := by cases e <;> simp only [wtZ] <;> omega
      rw [wtZs, List.length_cons]; omega
  have := this ds
  omega
theorem i_ixM {ds : List D} {k : Int} {Q : Res → Prop} (h0 : 0 ≤ k) (h1 : k < ds.length) (h : ∀ x, x ∈ ds → Q (.val x)) : ixD (.lst ds) (.int k) Q := by
  have hk : k.toNat < ds.length := by omega
  refine ⟨ds[k.toNat], ?_, h _ (List.getElem_mem _)⟩
  unfold atI
  rw [ixN_pos h0 h1, Option.bind_some, List.getElem?_eq_getElem hk]
theorem i_neS' {x : Str} {Q : Res → Prop} (h1 : okE (.str x) = true) (h : Q (.val (.bl false))) : neD (.str x) (.str x) Q := ⟨h1, h1, by rw [eqv_ssS, beq_self_eq_true]; exact h⟩
/-- a thing, or a list or a tuple of things -/
def ThZ (j : Nat) (d : D) : Prop := AskJ j d ∨ ∃ ds : List D, (d = .lst ds ∨ d = .tup ds) ∧ ds.length ≤ 50 + j ∧ ∀ x ∈ ds, AskJ j x
theorem ThZ.mono {j k : Nat} {d : D} (h : ThZ j d) (e : j ≤ k) : ThZ k d := by
  rcases h with h | ⟨ds, h1, h2, h3⟩
  · exact .inl (h.mono e)
  · exact .inr ⟨ds, h1, by omega, fun x hx => (h3 x hx).mono e⟩
theorem ThZ.lst {j : Nat} {ds : List D} (hj : 200 ≤ j) (h : ThZ j (.lst ds)) : ds.length ≤ 50 + j ∧ ∀ x ∈ ds, AskJ j x := by
  rcases h with h | ⟨es, h1 | h1, h2, h3⟩
  · exact ⟨by have := h.llen; omega, h.lmem⟩
  · cases h1; exact ⟨h2, h3⟩
  · cases h1
theorem ThZ.tup {j : Nat} {ds : List D} (hj : 200 ≤ j) (h : ThZ j (.tup ds)) : ds.length ≤ 50 + j ∧ ∀ x ∈ ds, AskJ j x := by
  rcases h with h | ⟨es, h1 | h1, h2, h3⟩
  · exact ⟨by have := h.tlen; omega, h.tmem⟩
  · cases h1
  · cases h1; exact ⟨h2, h3⟩
theorem ThZ.kind {j : Nat} {d : D} (h : ThZ j d) : (tyN d).isSome = true ∧ ∀ ds, d ≠ .scr ds := by
  rcases h with h | ⟨es, h1 | h1, _, _⟩
  · exact ⟨h.ty, fun ds e => by have := h.nz; rw [e] at this; simp [niceZ] at this⟩
  · subst h1; exact ⟨rfl, fun ds e => by cases e⟩
  · subst h1; exact ⟨rfl, fun ds e => by cases e⟩
theorem niceZs_some {j : Nat} : ∀ {ds : List D}, (∀ x ∈ ds, AskJ j x) → niceZs j ds = true ∧ PyData.depthAll (toPys ds) ≤ 15 ∧ wtZs 256 ds ≤ 1007 * ds.length
  | [], _ => ⟨rfl, by simp [toPys, PyData.depthAll], Nat.le_refl _⟩
  | d :: ds, h => by
    obtain ⟨a, b, c⟩ := niceZs_some fun x hx => h x (List.mem_cons_of_mem _ hx)
    have hd := h d (List.mem_cons_self ..)
    have h1 := hd.deep; have h2 := hd.wt
    refine ⟨by rw [niceZs, a, hd.nz]; rfl, by rw [toPys, PyData.depthAll]; omega, by rw [wtZs, List.length_cons]; omega⟩
theorem ThZ.nice {j : Nat} {d : D} (h : ThZ j d) (hj : j ≤ 256) : NiceZ d := by
  rcases h with h | ⟨es, h1 | h1, h2, h3⟩
  · exact h.nice hj
  · subst h1
    obtain ⟨a, b, c⟩ := niceZs_some h3
    exact ⟨by rw [niceZ]; exact niceZs_mono hj es a, by rw [toPy, PyData.depth]; omega, by rw [wtZ]; omega⟩
  · subst h1
    obtain ⟨a, b, c⟩ := niceZs_some h3
    exact ⟨by rw [niceZ]; exact niceZs_mono hj es a, by rw [toPy, PyData.depth]; omega, by rw [wtZ]; omega⟩
/-! things that are lists of ranks, or none -/
structure Elm (i : Nat) (d : D) : Prop where
  ty : (tyN d).isSome = true
  nz : niceZ 256 d = true
  deep : (toPy d).depth ≤ 3 + i
  wt : wtZ 256 d ≤ 300 + 10 * i
theorem Elm.mono {i k : Nat} {d : D} (h : Elm i d) (e : i ≤ k) : Elm k d := ⟨h.ty, h.nz, by have := h.deep; omega, by have := h.wt; omega⟩
theorem Elm.int {i : Nat} {x : Int} (h : x.natAbs < 2 ^ 256) : Elm i (.int x) := ⟨rfl, by rw [niceZ]; exact decide_eq_true h, by simp [toPy, PyData.depth], by rw [wtZ]; omega⟩
theorem Elm.wrap {i : Nat} {d : D} (h : Elm i d) : Elm (i + 1) (.lst [d]) := ⟨rfl, by rw [niceZ, niceZs, h.nz]; rfl, by have := h.deep; rw [toPy, toPys, toPys, PyData.depth, PyData.depthAll, PyData.depthAll]; omega, by have := h.wt; rw [wtZ, wtZs, wtZs]; omega⟩
def zW : D → Nat
  | .int i => if i = 0 then 1 else 257
  | d => wtZ 256 d
def zS : List D → Nat
  | [] => 0
  | d :: ds => zW d + 2 + zS ds
theorem zw_le (d : D) : zW d ≤ wtZ 256 d := by
  cases d with
  | int i => rw [wtZ]; show (if i = 0 then 1 else 257) ≤ _; split <;> omega
  | _ => exact Nat.le_refl _
theorem zw_ok {d : D} (h : niceZ 256 d = true) : (toPy d).shown.length ≤ zW d := by
  have n := (niceZ_ok (k := 256) (by decide) (by decide) d h).2.2.2
  cases d with
  | int i =>
    show _ ≤ (if i = 0 then 1 else 257)
    split
    · rename_i e; subst e; decide
    · rw [wtZ] at n; omega
  | _ => exact n
theorem zs_app : ∀ a b : List D, zS (a ++ b) = zS a + zS b
  | [], b => by rw [List.nil_append]; show _ = 0 + zS b; omega
  | d :: a, b => by rw [List.cons_append, zS, zS, zs_app a b]; omega
theorem zs_take (ds : List D) (k : Nat) : zS (ds.take k) + zS (ds.drop k) = zS ds := by rw [← zs_app, List.take_append_drop]
theorem zs_drop (ds : List D) {k j : Nat} (h : k ≤ j) : zS (ds.drop j) ≤ zS (ds.drop k) := by
  have e : (ds.drop k).drop (j - k) = ds.drop j := by rw [List.drop_drop]; congr 1; omega
  have := zs_take (ds.drop k) (j - k)
  rw [e] at this; omega
theorem zs_rep (n : Nat) (d : D) : zS (List.replicate n d) = n * (zW d + 2) := by
  induction n with
  | zero => rw [Nat.zero_mul]; rfl
  | succ n ih => rw [List.replicate_succ, zS, ih, Nat.succ_mul]; omega
theorem zs_wt : ∀ ds : List D, zS ds ≤ wtZs 256 ds
  | [] => Nat.le_refl _
  | d :: ds => by have := zs_wt ds; have := zw_le d; rw [zS, wtZs]; omega
theorem zs_ok : ∀ ds : List D, (∀ x ∈ ds, niceZ 256 x = true) → plainZs ds = true ∧ PyData.showableAll (toPys ds) = true ∧ (∀ t ∈ PyData.shownAll (toPys ds), PyData.strOk t = true) ∧ ((PyData.shownAll (toPys ds)).map (·.length)).sum + 2 * (PyData.shownAll (toPys ds)).length ≤ zS ds
  | [], _ => by refine ⟨rfl, rfl, fun t ht => ?_, ?_⟩ <;> simp_all [toPys, PyData.shownAll, zS]
  | d :: ds, h => by
    have hd := h d (List.mem_cons_self ..)
    obtain ⟨a1, a3, a6, -⟩ := niceZ_ok (k := 256) (by decide) (by decide) d hd
    have a7 := zw_ok hd
    obtain ⟨h1, h3, h6, h7⟩ := zs_ok ds fun x hx => h x (List.mem_cons_of_mem _ hx)
    refine ⟨by rw [plainZs, a1, h1]; rfl, by rw [toPys, PyData.showableAll, a3, h3]; rfl, fun t ht => ?_, ?_⟩
    · rw [toPys, PyData.shownAll] at ht
      rcases List.mem_cons.mp ht with e | e
      · rw [e]; exact a6
      · exact h6 t e
    · rw [toPys, PyData.shownAll, zS]
      simp only [List.map_cons, List.sum_cons, List.length_cons]
      omega
theorem deep_all : ∀ {ds : List D} {m : Nat}, (∀ x ∈ ds, (toPy x).depth ≤ m) → PyData.depthAll (toPys ds) ≤ m
  | [], m, _ => by rw [toPys, PyData.depthAll]; exact Nat.zero_le _
  | d :: ds, m, h => by
    have h1 := h d (List.mem_cons_self ..)
    have h2 := deep_all fun x hx => h x (List.mem_cons_of_mem _ hx)
    rw [toPys, PyData.depthAll]; omega
theorem okZ_of {d : D} (h1 : plainZ d = true) (h2 : (toPy d).showable = true) (h3 : (toPy d).depth ≤ 50) (h4 : (toPy d).shown.length ≤ 1000000) : okZ d = true := by
  unfold DL.okZ
  rw [h1, h2, decide_eq_true h3, decide_eq_true h4]; rfl
theorem lst_ok {ds : List D} (h : ∀ x ∈ ds, niceZ 256 x = true) (hd : ∀ x ∈ ds, (toPy x).depth ≤ 40) (hz : zS ds ≤ 900000) : okZ (.lst ds) = true ∧ okE (.str (toPy (.lst ds)).shown) = true := by
  obtain ⟨h1, h3, h6, h7⟩ := zs_ok ds h
  have h8 := deep_all hd
  refine ⟨okZ_of (by rw [plainZ]; exact h1) (by rw [toPy, PyData.showable]; exact h3) (by rw [toPy, PyData.depth]; omega) ?_, okE_strOk ?_⟩
  · rw [toPy, PyData.shown]
    have := listText_len_le (PyData.shownAll (toPys ds))
    omega
  · rw [toPy, PyData.shown]
    exact strOk_app (strOk_textFrom _ _ _ h6 (strOk_of _)) (strOk_of _)
theorem tup_ok {ds : List D} (h : ∀ x ∈ ds, niceZ 256 x = true) (hd : ∀ x ∈ ds, (toPy x).depth ≤ 40) (hz : zS ds ≤ 900000) : okZ (.tup ds) = true ∧ okE (.str (toPy (.tup ds)).shown) = true := by
  obtain ⟨h1, h3, h6, h7⟩ := zs_ok ds h
  have h8 := deep_all hd
  refine ⟨okZ_of (by rw [plainZ]; exact h1) (by rw [toPy, PyData.showable]; exact h3) (by rw [toPy, PyData.depth]; omega) ?_, okE_strOk ?_⟩
  · rw [toPy, PyData.shown]
    unfold tupleText
    rw [strLen_append, strLen_append]
    have h8 := join_len ", " (PyData.shownAll (toPys ds))
    have h9 : (", " : Str).length = 2 := by decide
    rw [h9] at h8
    have h10 : ("(" : Str).length = 1 := by decide
    have h11 : ((if (PyData.shownAll (toPys ds)).length == 1 then ",)" else ")" : String) : Str).length ≤ 2 := by split <;> decide
    omega
  · rw [toPy, PyData.shown]
    unfold tupleText
    refine strOk_app (strOk_app (strOk_of _) (strOk_join _ _ h6)) ?_
    split <;> exact strOk_of _
structure Lsk (i : Nat) (ds : List D) : Prop where
  el : ∀ x ∈ ds, Elm i x
  ln : ds.length ≤ 10000 + 20 * i
  zs : zS ds ≤ 40000 + 8000 * i
theorem Lsk.mono {i k : Nat} {ds : List D} (h : Lsk i ds) (e : i ≤ k) : Lsk k ds := ⟨fun x hx => (h.el x hx).mono e, by have := h.ln; omega, by have := h.zs; omega⟩
theorem Lsk.ok {i : Nat} {ds : List D} (h : Lsk i ds) (hi : i ≤ 30) : (okZ (.lst ds) = true ∧ okE (.str (toPy (.lst ds)).shown) = true) ∧ (okZ (.tup ds) = true ∧ okE (.str (toPy (.tup ds)).shown) = true) :=
  ⟨lst_ok (fun x hx => (h.el x hx).nz) (fun x hx => by have := (h.el x hx).deep; omega) (by have := h.zs; omega), tup_ok (fun x hx => (h.el x hx).nz) (fun x hx => by have := (h.el x hx).deep; omega) (by have := h.zs; omega)⟩
def dk2 : D := .dkl [(.inl 0, .int 1), (.inl 1, .int 2)]
inductive Thg (C : Addr) (i : Nat) : D → Prop
  | one (d : D) : Elm i d → Thg C i d
  | lst (ds : List D) : Lsk i ds → Thg C i (.lst ds)
  | tup (ds : List D) : Lsk i ds → Thg C i (.tup ds)
  | ring : Thg C i (ringD C [1, 2])
  | dct : Thg C i dk2
theorem Elm.lsk {i : Nat} {ds : List D} (h : Elm i (.lst ds)) (hi : i ≤ 30) : Lsk i ds := by
  have e := h.nz; have h1 := h.deep; have h2 := h.wt
  rw [niceZ] at e
  rw [toPy, PyData.depth] at h1
  rw [wtZ] at h2
  have h3 := wtZs_len ds
  have h4 := zs_wt ds
  refine ⟨fun x hx => ?_, by omega, by omega⟩
  obtain ⟨a, b, c⟩ := niceZs_mem e x hx
  exact ⟨niceZ_ty a, a, by omega, by omega⟩
theorem Thg.lsk {C : Addr} {i : Nat} {ds : List D} (h : Thg C i (.lst ds)) (hi : i ≤ 30) : Lsk i ds := by
  cases h with
  | one _ h => exact h.lsk hi
  | lst _ h => exact h
theorem Thg.mono {C : Addr} {i k : Nat} {d : D} (h : Thg C i d) (e : i ≤ k) : Thg C k d := by
  cases h with
  | one _ h => exact .one _ (h.mono e)
  | lst _ h => exact .lst _ (h.mono e)
  | tup _ h => exact .tup _ (h.mono e)
  | ring => exact .ring
  | dct => exact .dct
/-- how a thing is told -/
theorem Thg.cases {C : Addr} {i : Nat} {d : D} (h : Thg C i d) (hi : i ≤ 30) : ((tyN d).isSome = true ∧ okZ d = true ∧ okE (.str (toPy d).shown) = true) ∨ d = ringD C [1, 2] := by
  cases h with
  | one _ h =>
    have n := niceZ_ok (k := 256) (by decide) (by decide) d h.nz
    have := h.deep
    have := h.wt
    exact .inl ⟨h.ty, okZ_of n.1 n.2.1 (by omega) (by omega), okE_strOk n.2.2.1⟩
  | lst _ h => exact .inl ⟨rfl, (h.ok hi).1⟩
  | tup _ h => exact .inl ⟨rfl, (h.ok hi).2⟩
  | ring => exact .inr rfl
  | dct =>
    have n := niceZ_ok (k := 256) (by decide) (by decide) dk2 (by decide)
    have hw : wtZ 256 dk2 ≤ 2000 := by decide
    exact .inl ⟨rfl, okZ_of n.1 n.2.1 (by decide) (by omega), okE_strOk n.2.2.1⟩
/-- a list of 2 to 12 ints -/
def rgtD : D → Bool
  | .lst ds => decide (2 ≤ ds.length) && decide (ds.length ≤ 12) && ds.all isIntZ
  | _ => false
where isIntZ : D → Bool
  | .int _ => true
  | _ => false
theorem Thg.noL {C : Addr} {i : Nat} {d : D} (h : Thg C i d) (hn : ∀ ds, d ≠ .lst ds) (ht : (tyN d).isSome = true) : isTy "list" d = false := by
  cases d with
  | lst ds => exact absurd rfl (hn ds)
  | scr ds =>
    cases h with
    | one _ h => have := h.nz; simp [niceZ] at this
  | _ => first | rfl | cases ht
theorem rgt_noL {d : D} (hn : ∀ ds, d ≠ .lst ds) : rgtD d = false := by
  cases d with
  | lst ds => exact absurd rfl (hn ds)
  | _ => rfl
theorem rgt_lst (ds : List D) : rgtD (.lst ds) = (decide (2 ≤ ds.length) && decide (ds.length ≤ 12) && ds.all rgtD.isIntZ) := rfl
theorem intZ_ints : ∀ {ds : List D}, ds.all rgtD.isIntZ = true → ∃ l : List Int, ds = l.map D.int
  | [], _ => ⟨[], rfl⟩
  | d :: ds, h => by
    rw [List.all_cons, Bool.and_eq_true] at h
    obtain ⟨l, rfl⟩ := intZ_ints h.2
    cases d with
    | int x => exact ⟨x :: l, rfl⟩
    | _ => cases h.1
theorem rgt_ints {d : D} (h : rgtD d = true) : ∃ l : List Int, d = .lst (l.map D.int) ∧ 2 ≤ l.length ∧ l.length ≤ 12 := by
  cases d with
  | lst ds =>
    rw [rgt_lst, Bool.and_eq_true, Bool.and_eq_true] at h
    obtain ⟨l, rfl⟩ := intZ_ints h.2
    rw [List.length_map] at h
    exact ⟨l, rfl, of_decide_eq_true h.1.1, of_decide_eq_true h.1.2⟩
  | _ => cases h
theorem intZ_all (l : List Int) : (l.map D.int).all rgtD.isIntZ = true := by
  rw [List.all_map, List.all_eq_true]
  exact fun _ _ => rfl
theorem rgt_of {l : List Int} (h1 : 2 ≤ l.length) (h2 : l.length ≤ 12) : rgtD (.lst (l.map D.int)) = true := by
  rw [rgt_lst, intZ_all, List.length_map, decide_eq_true h1, decide_eq_true h2]; rfl
def sRing___init__ (C CW : Addr) : DSp := fun ds Q E => ∃ (i : Nat) (d : D), ds = [.obj C [] [], d] ∧ Thg C i d ∧ i ≤ 30 ∧ ((∃ l : List Int, d = .lst (l.map D.int) ∧ 2 ≤ l.length ∧ l.length ≤ 12 ∧ Q false .non [ringD C l]) ∨ (rgtD d = false ∧ E "Wrong" [("place", .int 0)] [.obj C [] []]))
theorem i_Rinit {C CW : Addr} {i : Nat} {l : List Int} {Q : Bool → D → List D → Prop} {E : EdT} (h : Thg C i (.lst (l.map D.int))) (hi : i ≤ 30) (h1 : 2 ≤ l.length) (h2 : l.length ≤ 12) (q : Q false .non [ringD C l]) : sRing___init__ C CW [.obj C [] [], .lst (l.map D.int)] Q E := ⟨i, _, rfl, h, hi, .inl ⟨l, rfl, h1, h2, q⟩⟩
theorem i_RinitN {C CW : Addr} {i : Nat} {d : D} {Q : Bool → D → List D → Prop} {E : EdT} (h : Thg C i d) (hi : i ≤ 30) (hr : rgtD d = false) (q : E "Wrong" [("place", .int 0)] [.obj C [] []]) : sRing___init__ C CW [.obj C [] [], d] Q E := ⟨i, _, rfl, h, hi, .inr ⟨hr, q⟩⟩
theorem fm_isi (ds : List D) : List.filterMap (fun x : D => some (D.bl (rgtD.isIntZ x))) ds = (ds.map rgtD.isIntZ).map D.bl := by
  induction ds with
  | nil => rfl
  | cons x t ih => rw [List.filterMap_cons, ih]; rfl
theorem all_isi (ds : List D) : (ds.map rgtD.isIntZ).all id = ds.all rgtD.isIntZ := by
  rw [List.all_map]; rfl
def slaw_told (C1 C2 CR C3 C4 CW : Addr) : DSp := fun ds Q _ => ∃ (i : Nat) (d : D), ds = [d] ∧ Thg CR i d ∧ i ≤ 30 ∧ ((∃ l : List Int, d = .lst (l.map D.int) ∧ 2 ≤ l.length ∧ l.length ≤ 12 ∧ Q true (.lst (l.map D.int)) []) ∨ (rgtD d = false ∧ Q false (.tup [.str "wrong", .int 0]) []))
theorem i_ltoldR {C1 C2 CR C3 C4 CW : Addr} {i : Nat} {l : List Int} {Q : Bool → D → List D → Prop} {E : EdT} (h : Thg CR i (.lst (l.map D.int))) (hi : i ≤ 30) (h1 : 2 ≤ l.length) (h2 : l.length ≤ 12) (q : Q true (.lst (l.map D.int)) []) : slaw_told C1 C2 CR C3 C4 CW [.lst (l.map D.int)] Q E := ⟨i, _, rfl, h, hi, .inl ⟨l, rfl, h1, h2, q⟩⟩
theorem i_ltoldW {C1 C2 CR C3 C4 CW : Addr} {i : Nat} {d : D} {Q : Bool → D → List D → Prop} {E : EdT} (h : Thg CR i d) (hi : i ≤ 30) (hr : rgtD d = false) (q : Q false (.tup [.str "wrong", .int 0]) []) : slaw_told C1 C2 CR C3 C4 CW [d] Q E := ⟨i, _, rfl, h, hi, .inr ⟨hr, q⟩⟩
def slaw_whole : DSp := fun ds Q _ => ∃ d, ds = [d] ∧ (tyN d).isSome = true ∧ Q false (.bl (match d with | .int _ => true | _ => false)) []
theorem i_whole {i : Int} {Q : Bool → D → List D → Prop} {E : EdT} (h : Q false (.bl true) []) : slaw_whole [.int i] Q E := ⟨_, rfl, rfl, h⟩
def slaw_is_right (C : Addr) : DSp := fun ds Q _ => ∃ (i : Nat) (d : D), ds = [d] ∧ Thg C i d ∧ i ≤ 30 ∧ Q false (.bl (rgtD d)) []
theorem i_lright {C : Addr} {i : Nat} {d : D} {Q : Bool → D → List D → Prop} {E : EdT} (h : Thg C i d) (hi : i ≤ 30) (q : Q false (.bl (rgtD d)) []) : slaw_is_right C [d] Q E := ⟨i, d, rfl, h, hi, q⟩
theorem fm_intZ : ∀ l : List D, (l.filterMap (fun x => if rgtD.isIntZ x = true then none else some x)).isEmpty = l.all rgtD.isIntZ
  | [] => rfl
  | x :: l => by
    have ih := fm_intZ l
    rw [List.all_cons, List.filterMap_cons]
    cases hx : rgtD.isIntZ x with
    | true => simp only [if_true, Bool.true_and]; exact ih
    | false => simp
abbrev slaw_take : DSp := takeD
def slaw_odd : DSp := fun ds Q _ => ∃ (b : D) (n : Nat), ds = [b, .int n] ∧ BagD b ∧ n ≤ 100 ∧ ∀ d b', Elm 0 d → BagD b' → Q false d [b']
theorem i_odd {b : D} {n : Nat} {Q : Bool → D → List D → Prop} {E : EdT} (hb : BagD b) (h1 : n ≤ 100) (h : ∀ d b', Elm 0 d → BagD b' → Q false d [b']) : slaw_odd [b, .int n] Q E := ⟨b, n, rfl, hb, h1, h⟩
def nest7 : D := .lst [.lst [.lst [.lst [.lst [.lst [.lst [.int 0]]]]]]]
theorem nest7_elm {i : Nat} (h : 4 ≤ i) : Elm i nest7 := Elm.mono (i := 4) ⟨rfl, by decide, by decide, by decide⟩ h
theorem abc_elm {i : Nat} : Elm i (.str "abc") := Elm.mono (i := 0) ⟨rfl, strOk_of _, by decide, by decide⟩ (Nat.zero_le _)
theorem zero_lsk {i : Nat} {Z : List D} (e : (List.replicate 9980 (0 : Int)).map D.int = Z) : Lsk i Z := by
  subst e
  rw [List.map_replicate]
  refine ⟨fun x hx => ?_, by rw [List.length_replicate]; omega, ?_⟩
  · rw [(List.mem_replicate.mp hx).2]; exact Elm.int (by decide)
  · rw [zs_rep, show zW (.int 0) = 1 from rfl]; omega
theorem ring_thg {C : Addr} : Thg C 0 (.lst (([1, 2] : List Int).map D.int)) := .lst _ ⟨fun x hx => by simp at hx; rcases hx with rfl | rfl <;> exact Elm.int (by decide), by decide, by decide⟩
theorem elm_zw {i : Nat} {d : D} (h : Elm i d) : zW d ≤ 300 + 10 * i := Nat.le_trans (zw_le d) h.wt
/-- ds with the k-th taken out, ys put in -/
theorem Lsk.put {i : Nat} {ds ys : List D} {k j : Nat} (h : Lsk i ds) (hkj : k ≤ j) (hy : ∀ y ∈ ys, Elm (i + 5) y) (h1 : ys.length ≤ 13) (hi : i ≤ 20) : Lsk (i + 5) (ds.take k ++ ys ++ ds.drop j) := by
  have e1 := zs_take ds k
  have e2 := zs_drop ds hkj
  have hln := h.ln
  have hzs := h.zs
  refine ⟨fun x hx => ?_, ?_, ?_⟩
  · rcases List.mem_append.mp hx with hx | hx
    · rcases List.mem_append.mp hx with hx | hx
      · exact (h.el x (List.mem_of_mem_take hx)).mono (by omega)
      · exact hy x hx
    · exact (h.el x (List.mem_of_mem_drop hx)).mono (by omega)
  · have h3 : (ds.take k).length + (ds.drop j).length ≤ ds.length := by rw [List.length_take, List.length_drop]; omega
    rw [List.length_append, List.length_append]; omega
  · have h4 : ∀ zs : List D, (∀ y ∈ zs, Elm (i + 5) y) → zS zs ≤ zs.length * (302 + 10 * (i + 5)) := fun zs hz => by
      induction zs with
      | nil => exact Nat.zero_le _
      | cons z zs ih =>
        have a := elm_zw (hz z (List.mem_cons_self ..))
        have b := ih fun y hy => hz y (List.mem_cons_of_mem _ hy)
        rw [zS, List.length_cons, Nat.succ_mul]; omega
    have h5 := h4 ys hy
    have h6 : ys.length * (302 + 10 * (i + 5)) ≤ 13 * (302 + 10 * (i + 5)) := Nat.mul_le_mul_right _ h1
    rw [zs_app, zs_app]; omega
theorem Lsk.cut {i : Nat} {ds : List D} (h : Lsk i ds) (k : Nat) : Lsk i (ds.take k) := ⟨fun x hx => h.el x (List.mem_of_mem_take hx), by rw [List.length_take]; have := h.ln; omega, by have := zs_take ds k; have := h.zs; omega⟩
def slaw_spoiled (C CW : Addr) : DSp := fun ds Q _ => ∃ (b d : D) (i : Nat), ds = [b, d] ∧ BagD b ∧ Thg C i d ∧ i ≤ 20 ∧ (∀ d' b', Thg C (i + 5) d' → BagD b' → Q false d' [b']) ∧ (∀ ds' b', Thg C (i + 5) (.lst ds') → BagD b' → Q true (.lst ds') [b'])
def slaw_ranks : DSp := fun ds Q _ => ∃ (b : D) (n : Int), ds = [b, .int n] ∧ BagD b ∧ 2 ≤ n ∧ n ≤ 100 ∧ ∀ (l : List Int) b', (l.length : Int) = n → (∀ x ∈ l, rkOk x) → BagD b' → Q true (.lst (l.map D.int)) [b']
theorem i_ranks {b : D} {n : Int} {Q : Bool → D → List D → Prop} {E : EdT} (hb : BagD b) (h1 : 2 ≤ n) (h2 : n ≤ 100) (h : ∀ (l : List Int) b', (l.length : Int) = n → (∀ x ∈ l, rkOk x) → BagD b' → Q true (.lst (l.map D.int)) [b']) : slaw_ranks [b, .int n] Q E := ⟨b, n, rfl, hb, h1, h2, h⟩
def slaw_some_size : DSp := fun ds Q _ => ∃ (b : D) (m : Int), ds = [b, .int m] ∧ BagD b ∧ 2 ≤ m ∧ m ≤ 100 ∧ ∀ (n : Int) b', 2 ≤ n → n ≤ m → BagD b' → Q false (.int n) [b']
theorem i_some {b : D} {m : Int} {Q : Bool → D → List D → Prop} {E : EdT} (hb : BagD b) (h1 : 2 ≤ m) (h2 : m ≤ 100) (h : ∀ (n : Int) b', 2 ≤ n → n ≤ m → BagD b' → Q false (.int n) [b']) : slaw_some_size [b, .int m] Q E := ⟨b, m, rfl, hb, h1, h2, h⟩
abbrev slaw_bag : DSp := bagD
theorem rk_elm {x : Int} (h : rkOk x) : x.natAbs < 2 ^ 256 := by
  unfold rkOk at h
  omega
theorem ints_lsk {i : Nat} {l : List Int} (h : ∀ x ∈ l, x.natAbs < 2 ^ 256) (hl : l.length ≤ 12) : Lsk i (l.map D.int) := by
  refine ⟨fun x hx => ?_, by rw [List.length_map]; omega, ?_⟩
  · obtain ⟨z, hz, rfl⟩ := List.mem_map.mp hx
    exact Elm.int (h z hz)
  · have : ∀ l : List Int, zS (l.map D.int) ≤ 259 * l.length := fun l => by
      induction l with
      | nil => exact Nat.le_refl _
      | cons a l ih =>
        have : zW (.int a) ≤ 257 := zw_le _
        rw [List.map_cons, zS, List.length_cons]; omega
    have := this l
    omega
theorem thg_text {C : Addr} {i : Nat} {d : D} (h : Thg C i d) (hi : i ≤ 30) : ∃ T : Str, okE (.str T) = true ∧ ∀ (Γ : DL.Env) (Q : QE), Q (.val (.str T)) Γ → rxk C (sRing___repr__ C) (.val d) Γ Q := by
  have h12 : ∀ x ∈ ([1, 2] : List Int), x.natAbs < 2 ^ 256 := fun x hx => by simp at hx; rcases hx with rfl | rfl <;> decide
  rcases h.cases hi with ⟨_, h1, h2⟩ | rfl
  · exact ⟨_, h2, fun Γ Q q => .inr ⟨d, rfl, i_reprZ h1 q⟩⟩
  · exact ⟨ringT [1, 2], okE_strOk (ringT_ok h12), fun Γ Q q => .inl ⟨_, _, rfl, i_Rrepr h12 (by decide) (rpk_in q)⟩⟩
abbrev slaw : DSp := slawD
set_option maxHeartbeats 4000000 in
theorem v_Ring___repr__ {C_Ring : Addr} (ds : List D) (Qd : Bool → D → List D → Prop) (Ed : EdT) (hl : ds.length = 1) (h : sRing___repr__ C_Ring ds Qd Ed) : m_Ring___repr__ C_Ring (endsD [.S] Qd) (startD ["self"] [.S] ds) := by
  obtain ⟨l, rfl, h1, h2, hq⟩ := h
  unfold m_Ring___repr__
  lcg_src
  have hs := shown_len h1 h2
  have e5 : ("Ring(" : Str).length = 5 := by decide
  have e1 : (")" : Str).length = 1 := by decide
  have hs : (toPy (D.lst (l.map D.int))).shown.length ≤ 26000 := hs
  lcg_sub
  all_goals first
    | exact (NiceD.ints h1 (by omega)).okR
    | (rw [empty_app]; simp only [strLen_append]; omega)
    | (rw [empty_app, e5]; decide)
    | (rw [empty_app]; exact hq)
set_option maxHeartbeats 4000000 in
theorem v_law_alike (ds : List D) (Qd : Bool → D → List D → Prop) (Ed : EdT) (hl : ds.length = 2) (h : slaw_alike ds Qd Ed) : m_law_alike (endsD [.S, .S] Qd) (startD ["_law_found", "_law_due"] [.S, .S] ds) := by
  obtain ⟨a, b, rfl, rfl, hn, hq⟩ := h
  unfold m_law_alike
  lcg_src
  lcg_sub
  refine i_eq hn.okE hn.okE hn.eqv ?_
  lcg_sub
  refine i_repr hn.okR ?_
  lcg_sub
  refine i_repr hn.okR ?_
  lcg_sub
  refine i_eqS hn.okS ?_
  lcg_sub
  exact hq
set_option maxHeartbeats 4000000 in
theorem v_Ring_ranks {C_Ring : Addr} (ds : List D) (Qd : Bool → D → List D → Prop) (Ed : EdT) (hl : ds.length = 1) (h : sRing_ranks C_Ring ds Qd Ed) : m_Ring_ranks C_Ring (endsD [.S] Qd) (startD ["self"] [.S] ds) := by
  obtain ⟨l, rfl, hq⟩ := h
  unfold m_Ring_ranks
  lcg_src
  lcg_sub
  exact hq
set_option maxHeartbeats 4000000 in
theorem v_is_integer (ds : List D) (Qd : Bool → D → List D → Prop) (Ed : EdT) (hl : ds.length = 1) (h : sis_integer ds Qd Ed) : m_is_integer (endsD [.S] Qd) (startD ["thing"] [.S] ds) := by
  obtain ⟨d, rfl, hd, hq⟩ := h
  unfold m_is_integer
  lcg_src
  cases d with
  | obj C ns ds => cases hd
  | cls C => cases hd
  | xcl C n => cases hd
  | sto S => cases hd
  | dtl kvs => cases hd
  | pnK o vs => cases hd
  | pnT o vs => cases hd
  | _ =>
    lcg_sub
    exact hq
set_option maxHeartbeats 4000000 in
theorem v_is_between (ds : List D) (Qd : Bool → D → List D → Prop) (Ed : EdT) (hl : ds.length = 3) (h : sis_between ds Qd Ed) : m_is_between sis_integer (endsD [.S, .S, .S] Qd) (startD ["thing", "least", "most"] [.S, .S, .S] ds) := by
  obtain ⟨d, lo, hi, rfl, hd, hq⟩ := h
  unfold m_is_between
  lcg_src
  lcg_sub
  refine i_isint hd ?_
  cases d with
  | int i =>
    have hq : Qd false (.bl (decide (lo ≤ i) && decide (i ≤ hi))) [] := hq
    show ptk _ _ _ false (.bl true) []
    lcg_sub
    refine e_ite (fun h1 => ?_) (fun h1 => ?_)
    · rw [h1] at hq
      lcg_sub
      exact hq
    · rw [h1] at hq
      lcg_sub
      exact hq
  | _ =>
    have hq : Qd false (.bl false) [] := hq
    show ptk _ _ _ false (.bl false) []
    lcg_sub
    exact hq
set_option maxHeartbeats 4000000 in
theorem v_is_size (ds : List D) (Qd : Bool → D → List D → Prop) (Ed : EdT) (hl : ds.length = 1) (h : sis_size ds Qd Ed) : m_is_size sis_between (endsD [.S] Qd) (startD ["thing"] [.S] ds) := by
  obtain ⟨d, rfl, hd, hq⟩ := h
  unfold m_is_size
  lcg_src
  lcg_sub
  refine i_btw hd ?_
  lcg_sub
  exact hq
set_option maxHeartbeats 4000000 in
theorem v_Ring___init__ {C_Ring C_Wrong : Addr} (ds : List D) (Qd : Bool → D → List D → Prop) (Ed : EdT) (hl : ds.length = 2) (h : sRing___init__ C_Ring C_Wrong ds Qd Ed) : m_Ring___init__ C_Ring C_Wrong sis_integer sis_size (wEnd [.M, .S] Ed) (endsD [.M, .S] Qd) (startD ["self", "ranks", "rank"] [.M, .S] ds) := by
  obtain ⟨i, d, rfl, h, hi, hq⟩ := h
  unfold m_Ring___init__
  lcg_src
  by_cases hn : ∀ ds, d ≠ .lst ds
  · have hE : Ed "Wrong" [("place", .int 0)] [.obj C_Ring [] []] := by
      rcases hq with ⟨l, rfl, -⟩ | ⟨-, hq⟩
      · exact absurd rfl (hn _)
      · exact hq
    clear hq
    rcases h.cases hi with ⟨ht, -, -⟩ | rfl
    · have hl := h.noL hn ht
      lcg_sub
      refine .inl ⟨_, rfl, ht, ?_⟩
      rw [hl]
      lcg_sub
      exact hE
    · lcg_sub
      refine .inr ⟨_, _, rfl, ?_⟩
      lcg_sub
      exact hE
  · obtain ⟨ds, rfl⟩ : ∃ ds, d = .lst ds := by
      rcases Classical.em (∃ ds, d = .lst ds) with z | z
      · exact z
      · exact absurd (fun ds e => z ⟨ds, e⟩) hn
    have L := h.lsk hi
    lcg_sub
    refine .inl ⟨_, rfl, rfl, ?_⟩
    rw [show isTy "list" (.lst ds) = true from rfl]
    by_cases c : 2 ≤ ds.length ∧ ds.length ≤ 12
    · obtain ⟨c1, c2⟩ := c
      have c1' : (2 : Int) ≤ (ds.length : Int) := by omega
      have c2' : (ds.length : Int) ≤ 12 := by omega
      lcg_sub
      refine comp_fn (fun x => some (.bl (rgtD.isIntZ x))) (by first | exact trivial | rfl) rfl _ _ (fun x hx N hN => ?_) ?_ ?_
      · have hx := (L.el x hx).ty
        have he : isIntD x = rgtD.isIntZ x := by cases x <;> rfl
        lcg_sub
        refine i_isint hx ?_
        rw [he]
        lcg_sub
        exact hN
      · simp only [List.length_nil]; omega
      · rw [List.nil_append, fm_isi]
        lcg_sub
        rw [all_isi]
        cases ha : ds.all rgtD.isIntZ with
        | false =>
          have hq : Ed "Wrong" [("place", .int 0)] [.obj C_Ring [] []] := by
            rcases hq with ⟨l, e, -⟩ | ⟨-, hq⟩
            · have e := D.lst.inj e; rw [e, intZ_all] at ha; cases ha
            · exact hq
          lcg_sub
          exact hq
        | true =>
          obtain ⟨l, rfl⟩ := intZ_ints ha
          have hq : Qd false .non [ringD C_Ring l] := by
            rcases hq with ⟨l2, e, -, -, hq⟩ | ⟨e, -⟩
            · have e2 : l.map D.int = l2.map D.int := D.lst.inj e
              have : l = l2 := List.map_inj_right (fun a b h => by cases h; rfl) |>.mp e2
              subst this; exact hq
            · rw [List.length_map] at c1 c2; rw [rgt_of c1 c2] at e; cases e
          lcg_sub
          exact hq
    · have hq : Ed "Wrong" [("place", .int 0)] [.obj C_Ring [] []] := by
        rcases hq with ⟨l, e, h1, h2, -⟩ | ⟨-, hq⟩
        · have e := D.lst.inj e; rw [e, List.length_map] at c; exact absurd ⟨h1, h2⟩ c
        · exact hq
      have hb : btwD 2 12 (.int (ds.length : Int)) = false := by
        show (decide (2 ≤ (ds.length : Int)) && decide ((ds.length : Int) ≤ 12)) = false
        by_cases c1 : (2 : Int) ≤ (ds.length : Int)
        · rw [decide_eq_false (by omega : ¬ (ds.length : Int) ≤ 12), Bool.and_false]
        · rw [decide_eq_false c1, Bool.false_and]
      lcg_sub
      refine i_size rfl ?_
      rw [hb]
      lcg_sub
      exact hq
set_option maxHeartbeats 4000000 in
theorem v_law_told {C_NoText C_Nothing C_Ring C_RingError C_TooMany C_Wrong : Addr} (ds : List D) (Qd : Bool → D → List D → Prop) (Ed : EdT) (hl : ds.length = 1) (h : slaw_told C_NoText C_Nothing C_Ring C_RingError C_TooMany C_Wrong ds Qd Ed) : m_law_told C_NoText C_Nothing C_Ring C_RingError C_TooMany C_Wrong (sRing_ranks C_Ring) (sRing___init__ C_Ring C_Wrong) (wEnd [.S] Ed) (endsD [.S] Qd) (startD ["_law_thing", "e"] [.S] ds) := by
  obtain ⟨i, d, rfl, h, hi, hq⟩ := h
  unfold m_law_told
  lcg_src
  lcg_sub
  rcases hq with ⟨l, rfl, h1, h2, hq⟩ | ⟨hr, hq⟩
  · refine i_Rinit h hi h1 h2 ?_
    lcg_sub
    exact hq
  · refine i_RinitN h hi hr ?_
    lcg_sub
    exact hq
set_option maxHeartbeats 4000000 in
theorem v_law_whole (ds : List D) (Qd : Bool → D → List D → Prop) (Ed : EdT) (hl : ds.length = 1) (h : slaw_whole ds Qd Ed) : m_law_whole (endsD [.S] Qd) (startD ["_law_thing"] [.S] ds) := by
  obtain ⟨d, rfl, hd, hq⟩ := h
  unfold m_law_whole
  lcg_src
  cases d with
  | obj C ns ds => cases hd
  | cls C => cases hd
  | xcl C n => cases hd
  | sto S => cases hd
  | dtl kvs => cases hd
  | pnK o vs => cases hd
  | pnT o vs => cases hd
  | _ =>
    lcg_sub
    exact hq
set_option maxHeartbeats 4000000 in
theorem v_law_is_right {C_Ring : Addr} (ds : List D) (Qd : Bool → D → List D → Prop) (Ed : EdT) (hl : ds.length = 1) (h : slaw_is_right C_Ring ds Qd Ed) : m_law_is_right C_Ring slaw_whole (endsD [.S] Qd) (startD ["_law_thing", "_law_one"] [.S] ds) := by
  obtain ⟨i, d, rfl, h, hi, hq⟩ := h
  unfold m_law_is_right
  lcg_src
  by_cases hn : ∀ ds, d ≠ .lst ds
  · rw [rgt_noL hn] at hq
    rcases h.cases hi with ⟨ht, -, -⟩ | rfl
    · have hl := h.noL hn ht
      lcg_sub
      refine .inl ⟨_, rfl, ht, ?_⟩
      rw [hl]
      lcg_sub
      exact hq
    · lcg_sub
      refine .inr ⟨_, _, rfl, ?_⟩
      lcg_sub
      exact hq
  · obtain ⟨ds, rfl⟩ : ∃ ds, d = .lst ds := by
      rcases Classical.em (∃ ds, d = .lst ds) with z | z
      · exact z
      · exact absurd (fun ds e => z ⟨ds, e⟩) hn
    have L := h.lsk hi
    lcg_sub
    refine .inl ⟨_, rfl, rfl, ?_⟩
    rw [show isTy "list" (.lst ds) = true from rfl]
    by_cases c1 : (2 : Int) ≤ (ds.length : Int)
    · by_cases c2 : (ds.length : Int) ≤ 12
      · lcg_sub
        refine comp_fn (fun x => if rgtD.isIntZ x = true then none else some x) (by first | exact trivial | rfl) rfl _ _ (fun x hx N hN => ?_) ?_ ?_
        · have hx := (L.el x hx).ty
          have hw : ∀ {Q : Bool → D → List D → Prop} {E : EdT}, Q false (.bl (rgtD.isIntZ x)) [] → slaw_whole [x] Q E := fun h => by cases x <;> exact ⟨_, rfl, hx, h⟩
          lcg_sub
          refine hw ?_
          lcg_sub
          cases hz : rgtD.isIntZ x with
          | true =>
            rw [hz] at hN
            lcg_sub
            exact hN
          | false =>
            rw [hz] at hN
            lcg_sub
            exact hN
        · simp only [List.length_nil]; omega
        · rw [List.nil_append]
          lcg_sub
          rw [fm_intZ]
          lcg_sub
          rw [rgt_lst, decide_eq_true (by omega : 2 ≤ ds.length), decide_eq_true (by omega : ds.length ≤ 12)] at hq
          exact hq
      · lcg_sub
        rw [rgt_lst, decide_eq_false (by omega : ¬ ds.length ≤ 12), Bool.and_false, Bool.false_and] at hq
        exact hq
    · lcg_sub
      rw [rgt_lst, decide_eq_false (by omega : ¬ 2 ≤ ds.length), Bool.false_and, Bool.false_and] at hq
      exact hq
set_option maxHeartbeats 4000000 in
theorem v_law_take (ds : List D) (Qd : Bool → D → List D → Prop) (Ed : EdT) (hl : ds.length = 2) (h : slaw_take ds Qd Ed) : m_law_take (endsD [.M, .S] Qd) (startD ["_law_bag_here", "_law_many", "_law_first", "_law_second", "_law_cell", "_law_value"] [.M, .S] ds) := by
  obtain ⟨b, many, rfl, ⟨big, seed, pos, cells, rfl, b1, b2, b3, b4, b5⟩, m1, m2, hq⟩ := h
  unfold m_law_take
  lcg_src
  refine cut (fun Γ => ∃ big seed pos c, Γ = [.io (.lst [.int big, .int seed, .int pos, .lst (cells.map D.int)]), .sh (.int many), .no, .no, c, .no] ∧ 0 ≤ big ∧ 0 ≤ seed ∧ seed < 2147483647 ∧ 0 ≤ pos) (fun N hN => ?_) ?_
  · by_cases hb : big = 0
    · subst hb
      lcg_off
      all_goals refine hN _ ⟨_, _, _, _, rfl, ?_, Int.emod_nonneg _ (by decide), Int.emod_lt_of_pos _ (by decide), by omega⟩
      all_goals omega
    · lcg_sub
      exact hN _ ⟨big, seed, pos, .no, rfl, b1, b2, b3, b4⟩
  · rintro _ ⟨big, seed, pos, c, rfl, b1, b2, b3, b4⟩
    have hB : ∀ x : Int, 0 ≤ x → BagD (.lst [.int x, .int seed, .int pos, .lst (cells.map D.int)]) := fun x hx => ⟨_, _, _, _, rfl, hx, b2, b3, b4, b5⟩
    have hx : 0 ≤ (seed + 1) * 39373 % 1000000007 ∧ (seed + 1) * 39373 % 1000000007 < 1000000007 := ⟨Int.emod_nonneg _ (by decide), Int.emod_lt_of_pos _ (by decide)⟩
    by_cases hb : 0 < big
    · lcg_sub
      exact hq _ _ (Int.emod_nonneg _ (by omega)) (Int.emod_lt_of_pos _ m1) (hB _ (Int.ediv_nonneg b1 (by omega)))
    · lcg_off
      all_goals exact hq _ _ (Int.emod_nonneg _ (by omega)) (Int.emod_lt_of_pos _ m1) (hB _ b1)
set_option maxHeartbeats 4000000 in
theorem v_law_odd (ds : List D) (Qd : Bool → D → List D → Prop) (Ed : EdT) (hl : ds.length = 2) (h : slaw_odd ds Qd Ed) : m_law_odd slaw_take (endsD [.M, .S] Qd) (startD ["_law_bag_here", "_law_size", "_law_some"] [.M, .S] ds) := by
  obtain ⟨b, n, rfl, hb, hn, hq⟩ := h
  unfold m_law_odd
  lcg_src
  lcg_sub
  refine i_ixM (by omega) (by simp only [List.length_cons, List.length_nil, List.length_append]; omega) fun d hd => ?_
  have hA : Elm 0 d := by
    have e10 : (10 : Int) ^ 39 = 1000000000000000000000000000000000000000 := rfl
    simp only [List.cons_append, List.nil_append, List.mem_cons, List.not_mem_nil, or_false] at hd
    rcases hd with rfl | rfl | rfl | rfl | rfl | rfl | rfl | rfl | rfl | rfl | rfl | rfl | rfl | rfl | rfl | rfl | rfl | rfl | rfl
    all_goals first | exact Elm.int (Nat.lt_of_le_of_lt (show _ ≤ 1000000000000000000000000000000000000000 by omega) (by decide)) | exact ⟨rfl, by decide, by decide, by decide⟩ | exact ⟨rfl, strOk_of _, by decide, by decide⟩
  lcg_sub
  exact hq _ _ hA hbag
set_option maxHeartbeats 4000000 in
theorem v_law_spoiled {C_Ring C_Wrong : Addr} (ds : List D) (Qd : Bool → D → List D → Prop) (Ed : EdT) (hl : ds.length = 2) (h : slaw_spoiled C_Ring C_Wrong ds Qd Ed) : m_law_spoiled C_Ring slaw_odd slaw_take (sRing___init__ C_Ring C_Wrong) (endsD [.M, .S] Qd) (startD ["_law_bag_here", "_law_thing", "_law_at", "_law_way", "_law_several"] [.M, .S] ds) := by
  obtain ⟨b, d, i, rfl, hb, h, hi, hqF, hqT⟩ := h
  unfold m_law_spoiled
  lcg_src
  by_cases hn : ∀ ds, d ≠ .lst ds
  · rcases h.cases (by omega) with ⟨ht, -, -⟩ | rfl
    · have hl := h.noL hn ht
      lcg_sub
      refine .inl ⟨_, rfl, ht, ?_⟩
      rw [hl]
      lcg_sub
      refine i_odd (n := 12) (by assumption) (by omega) fun od b1 hod hb1 => ?_
      lcg_sub
      refine i_mulR (n := 9980) (by omega) ?_
      generalize hZ : (List.replicate 9980 (0 : Int)).map D.int = Z
      have hZl : Lsk (i + 5) Z := zero_lsk hZ
      clear hZ
      lcg_sub
      refine i_Rinit (l := [1, 2]) ring_thg (by omega) (by decide) (by decide) ?_
      lcg_sub
      refine i_ixM (by omega) (by simp only [List.length_cons, List.length_nil]; omega) fun x hx => ?_
      have hT : Thg C_Ring (i + 5) x := by
        simp only [List.mem_cons, List.not_mem_nil, or_false] at hx
        rcases hx with rfl | rfl | rfl | rfl | rfl | rfl
        · exact .one _ (hod.mono (by omega))
        · exact .lst _ hZl
        · exact .one _ (nest7_elm (by omega))
        · exact .one _ abc_elm
        · exact .dct
        · exact .ring
      lcg_sub
      exact hqF _ _ hT hbag
    · lcg_sub
      refine .inr ⟨_, _, rfl, ?_⟩
      lcg_sub
      refine i_odd (n := 12) (by assumption) (by omega) fun od b1 hod hb1 => ?_
      lcg_sub
      refine i_mulR (n := 9980) (by omega) ?_
      generalize hZ : (List.replicate 9980 (0 : Int)).map D.int = Z
      have hZl : Lsk (i + 5) Z := zero_lsk hZ
      clear hZ
      lcg_sub
      refine i_Rinit (l := [1, 2]) ring_thg (by omega) (by decide) (by decide) ?_
      lcg_sub
      refine i_ixM (by omega) (by simp only [List.length_cons, List.length_nil]; omega) fun x hx => ?_
      have hT : Thg C_Ring (i + 5) x := by
        simp only [List.mem_cons, List.not_mem_nil, or_false] at hx
        rcases hx with rfl | rfl | rfl | rfl | rfl | rfl
        · exact .one _ (hod.mono (by omega))
        · exact .lst _ hZl
        · exact .one _ (nest7_elm (by omega))
        · exact .one _ abc_elm
        · exact .dct
        · exact .ring
      lcg_sub
      exact hqF _ _ hT hbag
  · obtain ⟨ds, rfl⟩ : ∃ ds, d = .lst ds := by
      rcases Classical.em (∃ ds, d = .lst ds) with z | z
      · exact z
      · exact absurd (fun ds e => z ⟨ds, e⟩) hn
    have L := h.lsk (by omega)
    have hlen : ds.length ≤ 10400 := by have := L.ln; omega
    lcg_sub
    refine .inl ⟨_, rfl, rfl, ?_⟩
    rw [show isTy "list" (.lst ds) = true from rfl]
    lcg_sub
    cases hz : ds.isEmpty with
    | true =>
      rw [if_pos rfl]
      lcg_sub
      refine i_odd (n := 12) (by assumption) (by omega) fun od b1 hod hb1 => ?_
      lcg_sub
      refine i_mulR (n := 9980) (by omega) ?_
      generalize hZ : (List.replicate 9980 (0 : Int)).map D.int = Z
      have hZl : Lsk (i + 5) Z := zero_lsk hZ
      clear hZ
      lcg_sub
      refine i_Rinit (l := [1, 2]) ring_thg (by omega) (by decide) (by decide) ?_
      lcg_sub
      refine i_ixM (by omega) (by simp only [List.length_cons, List.length_nil]; omega) fun x hx => ?_
      have hT : Thg C_Ring (i + 5) x := by
        simp only [List.mem_cons, List.not_mem_nil, or_false] at hx
        rcases hx with rfl | rfl | rfl | rfl | rfl | rfl
        · exact .one _ (hod.mono (by omega))
        · exact .lst _ hZl
        · exact .one _ (nest7_elm (by omega))
        · exact .one _ abc_elm
        · exact .dct
        · exact .ring
      lcg_sub
      exact hqF _ _ hT hbag
    | false =>
      have hpos : 0 < ds.length := by
        cases ds with
        | nil => cases hz
        | cons x xs => exact Nat.succ_pos _
      rw [if_neg Bool.false_ne_true]
      lcg_sub
      refine e_dif (fun hc => ?_) (fun hc => ?_)
      · lcg_sub
        refine i_odd (n := 12) (by assumption) (by omega) fun od b1 hod hb1 => ?_
        lcg_sub
        refine i_mulR (n := 9980) (by omega) ?_
        generalize hZ : (List.replicate 9980 (0 : Int)).map D.int = Z
        have hZl : Lsk (i + 5) Z := zero_lsk hZ
        clear hZ
        lcg_sub
        refine i_Rinit (l := [1, 2]) ring_thg (by omega) (by decide) (by decide) ?_
        lcg_sub
        refine i_ixM (by omega) (by simp only [List.length_cons, List.length_nil]; omega) fun x hx => ?_
        have hT : Thg C_Ring (i + 5) x := by
          simp only [List.mem_cons, List.not_mem_nil, or_false] at hx
          rcases hx with rfl | rfl | rfl | rfl | rfl | rfl
          · exact .one _ (hod.mono (by omega))
          · exact .lst _ hZl
          · exact .one _ (nest7_elm (by omega))
          · exact .one _ abc_elm
          · exact .dct
          · exact .ring
        lcg_sub
        exact hqF _ _ hT hbag
      · lcg_sub
        rename_i at_ bat hat0 hat1 hbat
        obtain ⟨k, rfl⟩ := Int.eq_ofNat_of_zero_le hat0
        have hk : k < ds.length := by omega
        have hcT : DL.cutD ds none (some (k : Int)) = ds.take k := by rw [cutG_to (by omega), Int.toNat_natCast]
        have hcF : DL.cutD ds (some (k : Int)) none = ds.drop k := by rw [cutG_from (by omega), Int.toNat_natCast]
        have hcF1 : DL.cutD ds (some ((k : Int) + 1)) none = ds.drop (k + 1) := by rw [cutG_from (by omega), show ((k : Int) + 1).toNat = k + 1 by omega]
        have hat : atI ds (k : Int) = some ds[k] := by
          unfold atI
          rw [ixN_pos (by omega) (by omega), Option.bind_some, Int.toNat_natCast, List.getElem?_eq_getElem hk]
        have hel : Elm i ds[k] := L.el _ (List.getElem_mem hk)
        generalize ds[k] = y at hat hel
        have hw : drawn = 0 ∨ drawn = 1 ∨ drawn = 2 ∨ drawn = 3 ∨ drawn = 4 ∨ drawn = 5 := by omega
        rcases hw with rfl | rfl | rfl | rfl | rfl | rfl
        · lcg_sub
          · rw [hcT, hcF1]
            have P := L.put (ys := []) (k := k) (j := k + 1) (by omega) (fun y hy => by cases hy) (by decide) (by omega)
            rw [List.append_nil] at P
            exact hqT _ _ (.lst _ P) hbag
          all_goals (first | (simp only [hcT, hcF, hcF1, List.length_append, List.length_take, List.length_drop, List.length_cons, List.length_nil, List.length_singleton]; omega) | (rw [hcT]; simp only [List.length_take, List.length_append, List.length_cons, List.length_nil]; omega))
        · lcg_sub
          refine i_ix hat ?_
          lcg_sub
          refine i_mulL ⟨by omega, by omega, by rw [List.length_singleton]; omega⟩ ?_
          have hrep : (List.replicate (1 + drawn).toNat [y]).flatten = List.replicate (1 + drawn).toNat y := by
            generalize (1 + drawn).toNat = n
            induction n with
            | zero => rfl
            | succ n ih => rw [List.replicate_succ, List.flatten_cons, ih]; rfl
          rw [hrep]
          have hrl : (List.replicate (1 + drawn).toNat y).length ≤ 13 := by rw [List.length_replicate]; omega
          have hre : ∀ z ∈ List.replicate (1 + drawn).toNat y, Elm (i + 5) z := fun z hz => by rw [(List.mem_replicate.mp hz).2]; exact hel.mono (by omega)
          generalize List.replicate (1 + drawn).toNat y = ys at hrl hre
          lcg_sub
          · rw [hcT, hcF]
            exact hqT _ _ (.lst _ (L.put (ys := ys) (k := k) (j := k) (Nat.le_refl _) hre hrl (by omega))) hbag
          all_goals (first | (simp only [hcT, hcF, hcF1, List.length_append, List.length_take, List.length_drop, List.length_cons, List.length_nil, List.length_singleton]; omega) | (rw [hcT]; simp only [List.length_take, List.length_append, List.length_cons, List.length_nil]; omega))
        · lcg_sub
          exact hqF _ _ (.tup _ (L.mono (by omega))) hbag
        · lcg_sub
          refine i_odd (n := 12) (by assumption) (by omega) fun od b1 hod hb1 => ?_
          lcg_sub
          · rw [hcT, hcF1]
            exact hqT _ _ (.lst _ (L.put (ys := [od]) (k := k) (j := k + 1) (by omega) (fun y hy => by rw [List.mem_singleton.mp hy]; exact hod.mono (by omega)) (show 1 ≤ 13 by decide) (by omega))) hb1
          all_goals (first | (simp only [hcT, hcF, hcF1, List.length_append, List.length_take, List.length_drop, List.length_cons, List.length_nil, List.length_singleton]; omega) | (rw [hcT]; simp only [List.length_take, List.length_append, List.length_cons, List.length_nil]; omega))
        · lcg_sub
          refine i_ix hat ?_
          lcg_sub
          · rw [hcT, hcF1]
            exact hqT _ _ (.lst _ (L.put (ys := [.lst [y]]) (k := k) (j := k + 1) (by omega) (fun z hz => by rw [List.mem_singleton.mp hz]; exact hel.wrap.mono (by omega)) (show 1 ≤ 13 by decide) (by omega))) hbag
          all_goals (first | (simp only [hcT, hcF, hcF1, List.length_append, List.length_take, List.length_drop, List.length_cons, List.length_nil, List.length_singleton]; omega) | (rw [hcT]; simp only [List.length_take, List.length_append, List.length_cons, List.length_nil]; omega))
        · lcg_sub
          have e1 : DL.cutD ds none (some 1) = ds.take 1 := by rw [cutG_to (by omega)]; rfl
          rw [e1]
          exact hqT _ _ (.lst _ ((L.cut 1).mono (by omega))) hbag
set_option maxHeartbeats 8000000 in
theorem v_law_ranks (ds : List D) (Qd : Bool → D → List D → Prop) (Ed : EdT) (hl : ds.length = 2) (h : slaw_ranks ds Qd Ed) : m_law_ranks slaw_take (endsD [.M, .S] Qd) (startD ["_law_bag_here", "_law_size", "_law_place", "_law_way", "_law_found", "_law_spot", "_law_few", "_law_great", "_law_rank"] [.M, .S] ds) := by
  obtain ⟨b, n, rfl, hb, n1, n2, hq⟩ := h
  unfold m_law_ranks
  lcg_src
  lcg_sub
  refine loop_rng n (fun i Γ => ∃ b c2 c5 c6 c7 c8 l, Γ = [.io b, .sh (.int n), c2, .sh (.int drawn), .ow (.lst (l.map D.int)), c5, c6, c7, c8] ∧ fr c2 = true ∧ fr c5 = true ∧ fr c6 = true ∧ fr c7 = true ∧ okOwn [c8] [0] = true ∧ BagD b ∧ (l.length : Int) = i ∧ 0 ≤ i ∧ (∀ x ∈ l, rkOk x)) ?_ ?_ ?_ _ _ _ (by omega) ⟨_, _, _, _, _, _, [], rfl, rfl, rfl, rfl, rfl, rfl, hbag, rfl, by omega, by simp⟩
  · intro i Γ _; exact trivial
  · rintro Γ ⟨b, c2, c5, c6, c7, c8, l, rfl, f2, f5, f6, f7, f8, hb, hl, h0, hx⟩
    dsimp only
    refine cut (fun Γ => ∃ (b : D) (c8 : Sl) (l : List Int), Γ = [.io b, .sh (.int n), c2, .sh (.int drawn), .ow (.lst (l.map D.int)), c5, c6, c7, c8] ∧ BagD b ∧ (l.length : Int) = n ∧ (∀ x ∈ l, rkOk x)) (fun M hM => ?_) ?_
    · have stay : ∀ b, BagD b → M [.io b, .sh (.int n), c2, .sh (.int drawn), .ow (.lst (l.map D.int)), c5, c6, c7, c8] := fun b hb => hM _ ⟨b, c8, l, rfl, hb, hl, hx⟩
      by_cases hw : drawn = 0
      · have hw' := hw
        lcg_sub
        refine e_dif (fun hc => ?_) (fun hc => ?_)
        · lcg_sub
          refine comp_fn (mapG fun r => if decide (0 < r) = true then 1 else 0) (by rfl) (by exact f8) _ _ (fun x hx N hN => ?_) ?_ ?_
          · obtain ⟨i, _, rfl⟩ := List.mem_map.mp hx
            lcg_sub
            exact hN
          · rw [List.length_map]; simp only [List.length_nil]; omega
          · rw [List.nil_append, mapG_all]
            lcg_sub
            refine hM _ ⟨_, _, _, rfl, hbag, by rw [List.length_map]; exact hl, fun x hx => ?_⟩
            obtain ⟨r, _, rfl⟩ := List.mem_map.mp hx
            show rkOk (if decide (0 < r) = true then (1 : Int) else 0)
            split <;> decide
        · lcg_sub
          exact stay _ hbag
      · lcg_sub
        exact stay _ hb
    · rintro _ ⟨b, c8, l, rfl, hb, hl, hx⟩
      by_cases hw : 1 < drawn
      · lcg_sub
        · rw [cutD_from hdrawn0 (by rw [List.length_map]; omega), cutD_to hdrawn0 (by rw [List.length_map]; omega), ← List.map_drop, ← List.map_take, ← List.map_append]
          exact hq _ _ (by rw [List.length_append, List.length_drop, List.length_take]; omega) (fun x hm => hx x ((List.mem_append.mp hm).elim List.mem_of_mem_drop List.mem_of_mem_take)) hbag
        · rw [cutD_from hdrawn0 (by rw [List.length_map]; omega), cutD_to hdrawn0 (by rw [List.length_map]; omega), List.length_drop, List.length_take, List.length_map]
          omega
      · lcg_sub
        exact hq _ _ hl hx hb
  · rintro i Γ N hi ⟨b, c2, c5, c6, c7, c8, l, rfl, f2, f5, f6, f7, f8, hb, hl, h0, hx⟩ hN
    have hw := hdrawn0
    have hw1 := hdrawn1
    lcg_sub
    rename_i way _ _ _ _ few _ f0 f1 _
    refine i_ix (atI_ints (l := [few, few * 3 - 4, drawn - 5 * 10 ^ 11, 0 - i, i + few, 10 ^ 39 - i * few]) (by simp only [List.length_cons, List.length_nil]; omega)) ?_
    have hm := ig_mem (l := [few, few * 3 - 4, drawn - 5 * 10 ^ 11, 0 - i, i + few, 10 ^ 39 - i * few]) (i := way) (by simp only [List.length_cons, List.length_nil]; omega)
    have h0' : 0 ≤ i * few := Int.mul_nonneg h0 f0
    have h1' : i * few ≤ 100 * 3 := by
      have := Int.mul_le_mul (show i ≤ 100 by omega) (show few ≤ 3 by omega) f0 (by decide)
      omega
    have hb : rkOk (ig [few, few * 3 - 4, drawn - 5 * 10 ^ 11, 0 - i, i + few, 10 ^ 39 - i * few] way) := by
      simp only [List.mem_cons, List.not_mem_nil, or_false] at hm
      rcases hm with e | e | e | e | e | e <;> rw [e] <;> constructor <;> omega
    generalize ig [few, few * 3 - 4, drawn - 5 * 10 ^ 11, 0 - i, i + few, 10 ^ 39 - i * few] way = g at hb
    lcg_sub
    refine hN _ ⟨_, _, _, _, _, _, l ++ [g], rfl, rfl, f5, rfl, rfl, f8, hbag, by rw [List.length_append, List.length_singleton]; omega, by omega, fun x hm => ?_⟩
    rcases List.mem_append.mp hm with hm | hm
    · exact hx x hm
    · rw [List.mem_singleton] at hm; rw [hm]; exact hb
set_option maxHeartbeats 4000000 in
theorem v_law_some_size (ds : List D) (Qd : Bool → D → List D → Prop) (Ed : EdT) (hl : ds.length = 2) (h : slaw_some_size ds Qd Ed) : m_law_some_size slaw_take (endsD [.M, .S] Qd) (startD ["_law_bag_here", "_law_most"] [.M, .S] ds) := by
  obtain ⟨b, m, rfl, hb, m1, m2, hq⟩ := h
  unfold m_law_some_size
  lcg_src
  lcg_sub
  have hd : drawn = 0 ∨ drawn = 1 := by omega
  rcases hd with rfl | rfl
  · lcg_sub
    exact hq _ _ (by omega) (by omega) hbag
  · lcg_sub
    exact hq _ _ (by omega) (by omega) hbag
set_option maxHeartbeats 4000000 in
theorem v_law_bag (ds : List D) (Qd : Bool → D → List D → Prop) (Ed : EdT) (hl : ds.length = 1) (h : slaw_bag ds Qd Ed) : m_law_bag (endsD [.S] Qd) (startD ["_law_script", "_law_cell"] [.S] ds) := by
  obtain ⟨ns, rfl, hq⟩ := h
  unfold m_law_bag
  lcg_src
  lcg_sub
  refine comp_inv (fun xs acc Γ => Γ = [.sh (.scr (ns.map D.int)), .no] ∧ (∃ ys : List Int, xs = ys.map D.int) ∧ (∃ cs : List Int, acc = cs.map D.int ∧ (∀ c ∈ cs, 0 ≤ c)) ∧ acc.length + xs.length ≤ 63) ?_ ?_ ?_ _ _ _ ⟨rfl, ⟨ns.take 63, ?_⟩, ⟨[], rfl, by simp⟩, ?_⟩
  · rintro xs acc Γ ⟨rfl, -⟩
    exact ⟨trivial, rfl⟩
  · rintro acc Γ ⟨rfl, -, ⟨cs, rfl, hc⟩, -⟩
    lcg_sub
    exact hq _ ⟨0, 1234567891, 0, cs, rfl, by decide, by decide, by decide, by decide, hc⟩
  · rintro x xs acc Γ N ⟨rfl, ⟨ys, hx⟩, ⟨cs, rfl, hc⟩, hlen⟩ hN
    cases ys with
    | nil => cases hx
    | cons y ys =>
      cases hx
      rw [List.length_cons] at hlen
      lcg_sub
      refine hN _ _ ⟨rfl, ⟨ys, rfl⟩, ⟨cs ++ [(y.natAbs : Int)], by rw [List.map_append]; rfl, fun c hm => ?_⟩, ?_⟩
      · rcases List.mem_append.mp hm with hm | hm
        · exact hc c hm
        · rw [List.mem_singleton] at hm; omega
      · simp only [List.length_append, List.length_map, List.length_singleton] at hlen ⊢; omega
  · simp [DL.cutD, HT.sIx, List.map_take, List.length_map, List.take_eq_take_iff]
  · simp [DL.cutD, HT.sIx]
    try omega
set_option maxHeartbeats 4000000 in
theorem v_law {C_NoText C_Nothing C_Ring C_RingError C_TooMany C_Wrong : Addr} (ds : List D) (Qd : Bool → D → List D → Prop) (Ed : EdT) (hl : ds.length = 1) (h : slaw ds Qd Ed) : m_law C_Ring (sRing___repr__ C_Ring) slaw_alike (slaw_told C_NoText C_Nothing C_Ring C_RingError C_TooMany C_Wrong) (slaw_is_right C_Ring) slaw_take (slaw_spoiled C_Ring C_Wrong) slaw_ranks slaw_some_size slaw_bag (endsD [.S] Qd) (startD ["_law_script", "_law_bag_here", "_law_go", "_law_size", "_law_thing", "_law_turn", "_law_text", "_law_due", "_law_again"] [.S] ds) := by
  obtain ⟨ns, rfl, hq⟩ := h
  unfold m_law
  lcg_src
  lcg_sub
  refine loop_rng 16 (fun i Γ => ∃ (b : D) (c2 c3 c4 c5 c6 c7 c8 : Sl), Γ = [.sh (.scr (ns.map D.int)), .ow b, c2, c3, c4, c5, c6, c7, c8] ∧ (fr c2 = true ∧ fr c3 = true ∧ fr c4 = true ∧ fr c5 = true ∧ fr c6 = true ∧ fr c7 = true ∧ fr c8 = true) ∧ BagD b) ?_ ?_ ?_ _ _ _ rfl ⟨_, _, _, _, _, _, _, _, rfl, ⟨rfl, rfl, rfl, rfl, rfl, rfl, rfl⟩, hbag⟩
  · rintro xs Γ ⟨b, c2, c3, c4, c5, c6, c7, c8, rfl, -⟩; first | exact rfl | exact trivial
  · rintro Γ ⟨b, c2, c3, c4, c5, c6, c7, c8, rfl, -, hb⟩
    lcg_sub
    exact hq
  · rintro i Γ M hi ⟨b, c2, c3, c4, c5, c6, c7, c8, rfl, ⟨f2, f3, f4, f5, f6, f7, f8⟩, hb⟩ hM
    lcg_sub
    refine i_ixM (by omega) (by simp only [List.length_cons, List.length_nil]; omega) fun x hx => ?_
    obtain ⟨m, rfl, hm⟩ : ∃ m : Nat, x = .int (m : Int) ∧ m ≤ 2 := by
      simp only [List.mem_cons, List.not_mem_nil, or_false] at hx
      rcases hx with rfl | rfl | rfl | rfl
      · exact ⟨0, rfl, by omega⟩
      · exact ⟨1, rfl, by omega⟩
      · exact ⟨1, rfl, by omega⟩
      · exact ⟨2, rfl, by omega⟩
    lcg_sub
    have hT0 : Thg C_Ring 0 (.lst (ranks.map D.int)) := .lst _ (ints_lsk (fun x hx => rk_elm (hranksb x hx)) (by omega))
    refine loop_rng (m : Int) (fun j Γ => ∃ (b : D) (k : Nat) (d : D) (c5 : Sl), Γ = [.sh (.scr (ns.map D.int)), .ow b, .sh (.int i), .sh (.int size), .sh d, c5, c6, c7, c8] ∧ fr c5 = true ∧ BagD b ∧ j = (k : Int) ∧ Thg C_Ring (5 * k) d) ?_ ?_ ?_ _ _ _ (by omega) ⟨_, 0, _, _, rfl, f5, by assumption, rfl, hT0⟩
    · rintro xs Γ ⟨b, k, d, c5, rfl, -⟩; first | exact rfl | exact trivial
    rotate_left
    · rintro j Γ M2 hj ⟨b, k, d, c5, rfl, f5, hb, rfl, hd⟩ hM2
      lcg_sub
      refine (⟨_, _, _, rfl, hb, hd, by omega, fun d' b' hd' hb' => ?_, fun ds' b' hd' hb' => ?_⟩ : slaw_spoiled _ _ _ _ _)
      · lcg_sub
        exact hM2 _ ⟨b', k + 1, d', _, rfl, rfl, hb', by omega, by rw [Nat.mul_succ]; exact hd'⟩
      · lcg_sub
        exact hM2 _ ⟨b', k + 1, _, _, rfl, rfl, hb', by omega, by rw [Nat.mul_succ]; exact hd'⟩
    rintro Γ ⟨b, k, d, c5, rfl, f5, hb, hk, hd⟩
    have hk2 : 5 * k ≤ 30 := by omega
    obtain ⟨T, hTo, hT⟩ := thg_text hd hk2
    lcg_sub
    refine hT _ _ ?_
    lcg_sub
    refine i_lright hd hk2 ?_
    lcg_sub
    cases hr : rgtD d with
    | true =>
      obtain ⟨l, rfl, hl1, hl2⟩ := rgt_ints hr
      have hlx : ∀ x ∈ l, x.natAbs < 2 ^ 256 := fun x hx => by
        have := ((hd.lsk hk2).el _ (List.mem_map.mpr ⟨x, hx, rfl⟩)).nz
        rw [niceZ, decide_eq_true_eq] at this
        exact this
      lcg_sub
      refine loop_rng 2 (fun j Γ => ∃ (c8 : Sl), Γ = [.sh (.scr (ns.map D.int)), .ow b, .sh (.int i), .sh (.int size), .sh (.lst (l.map D.int)), c5, .sh (.str T), .sh (.lst (l.map D.int)), c8] ∧ fr c8 = true) ?_ ?_ ?_ _ _ _ rfl ⟨_, rfl, f8⟩
      · rintro xs Γ ⟨c8, rfl, -⟩; first | exact rfl | exact trivial
      · rintro Γ ⟨c8, rfl, f8⟩
        exact hM _ ⟨_, _, _, _, _, _, _, _, rfl, ⟨rfl, rfl, rfl, f5, rfl, rfl, f8⟩, hb⟩
      · rintro j Γ M2 hj ⟨c8, rfl, f8⟩ hM2
        lcg_sub
        refine i_ltoldR hd hk2 hl1 hl2 ?_
        lcg_sub
        refine ⟨_, _, rfl, rfl, NiceD.ints hlx (by omega), ?_⟩
        lcg_sub
        refine hT _ _ ?_
        lcg_sub
        refine i_neS' hTo ?_
        lcg_sub
        exact hM2 _ ⟨_, rfl, rfl⟩
    | false =>
      lcg_sub
      refine loop_rng 2 (fun j Γ => ∃ (c8 : Sl), Γ = [.sh (.scr (ns.map D.int)), .ow b, .sh (.int i), .sh (.int size), .sh d, c5, .sh (.str T), .sh (.tup [.str "wrong", .int 0]), c8] ∧ fr c8 = true) ?_ ?_ ?_ _ _ _ rfl ⟨_, rfl, f8⟩
      · rintro xs Γ ⟨c8, rfl, -⟩; first | exact rfl | exact trivial
      · rintro Γ ⟨c8, rfl, f8⟩
        exact hM _ ⟨_, _, _, _, _, _, _, _, rfl, ⟨rfl, rfl, rfl, f5, rfl, rfl, f8⟩, hb⟩
      · rintro j Γ M2 hj ⟨c8, rfl, f8⟩ hM2
        lcg_sub
        refine i_ltoldW hd hk2 hr ?_
        lcg_sub
        refine ⟨_, _, rfl, rfl, (Ni.tup (Nis.cons (Ni.str (m := 8) (strOk_of _) (by decide)) (Nis.cons (Ni.int (i := 0) (by decide)) Nis.nil))).done (by decide) (by decide), ?_⟩
        lcg_sub
        refine hT _ _ ?_
        lcg_sub
        refine i_neS' hTo ?_
        lcg_sub
        exact hM2 _ ⟨_, rfl, rfl⟩
end LW
namespace LW
open PySem PySem.Spec PyProof.Rows L2 DL
set_option maxHeartbeats 4000000 in
theorem all_mk {l : PySem.W.OpenLaw} {w : World} {K : PySem.W.Frag} {h : Heap} {mg : Str → Option Value} {fa f_Ring___repr__ f_law_alike f_Ring_ranks f_is_integer f_is_between f_is_size f_Ring___init__ f_law_told f_law_whole f_law_is_right f_law_take f_law_odd f_law_spoiled f_law_ranks f_law_some_size f_law_bag f_law f_Wrong___init__ C_NoText C_Nothing C_Ring C_RingError C_TooMany C_Wrong : Addr} (X : K.In h) (G : h.Ns mainGlobals mg) (hfa : mg "law" = some (.ref fa))
    {od_Ring___repr__ an_Ring___repr__ : Option Addr} {sl_Ring___repr__ : Array (Option Value)} {oc_Ring___repr__ kV_Ring___repr__ dc_Ring___repr__ pm_Ring___repr__ cd_Ring___repr__ ct_Ring___repr__ : Value}
    {od_law_alike an_law_alike : Option Addr} {sl_law_alike : Array (Option Value)} {oc_law_alike kV_law_alike dc_law_alike pm_law_alike cd_law_alike ct_law_alike : Value}
    {od_Ring_ranks an_Ring_ranks : Option Addr} {sl_Ring_ranks : Array (Option Value)} {oc_Ring_ranks kV_Ring_ranks dc_Ring_ranks pm_Ring_ranks cd_Ring_ranks ct_Ring_ranks : Value}
    {od_is_integer an_is_integer : Option Addr} {sl_is_integer : Array (Option Value)} {oc_is_integer kV_is_integer dc_is_integer pm_is_integer cd_is_integer ct_is_integer : Value}
    {od_is_between an_is_between : Option Addr} {sl_is_between : Array (Option Value)} {oc_is_between kV_is_between dc_is_between pm_is_between cd_is_between ct_is_between : Value}
    {od_is_size an_is_size : Option Addr} {sl_is_size : Array (Option Value)} {oc_is_size kV_is_size dc_is_size pm_is_size cd_is_size ct_is_size : Value}
    {od_Ring___init__ an_Ring___init__ : Option Addr} {sl_Ring___init__ : Array (Option Value)} {oc_Ring___init__ kV_Ring___init__ dc_Ring___init__ pm_Ring___init__ cd_Ring___init__ ct_Ring___init__ : Value}
    {od_law_told an_law_told : Option Addr} {sl_law_told : Array (Option Value)} {oc_law_told kV_law_told dc_law_told pm_law_told cd_law_told ct_law_told : Value}
    {od_law_whole an_law_whole : Option Addr} {sl_law_whole : Array (Option Value)} {oc_law_whole kV_law_whole dc_law_whole pm_law_whole cd_law_whole ct_law_whole : Value}
    {od_law_is_right an_law_is_right : Option Addr} {sl_law_is_right : Array (Option Value)} {oc_law_is_right kV_law_is_right dc_law_is_right pm_law_is_right cd_law_is_right ct_law_is_right : Value}
    {od_law_take an_law_take : Option Addr} {sl_law_take : Array (Option Value)} {oc_law_take kV_law_take dc_law_take pm_law_take cd_law_take ct_law_take : Value}
    {od_law_odd an_law_odd : Option Addr} {sl_law_odd : Array (Option Value)} {oc_law_odd kV_law_odd dc_law_odd pm_law_odd cd_law_odd ct_law_odd : Value}
    {od_law_spoiled an_law_spoiled : Option Addr} {sl_law_spoiled : Array (Option Value)} {oc_law_spoiled kV_law_spoiled dc_law_spoiled pm_law_spoiled cd_law_spoiled ct_law_spoiled : Value}
    {od_law_ranks an_law_ranks : Option Addr} {sl_law_ranks : Array (Option Value)} {oc_law_ranks kV_law_ranks dc_law_ranks pm_law_ranks cd_law_ranks ct_law_ranks : Value}
    {od_law_some_size an_law_some_size : Option Addr} {sl_law_some_size : Array (Option Value)} {oc_law_some_size kV_law_some_size dc_law_some_size pm_law_some_size cd_law_some_size ct_law_some_size : Value}
    {od_law_bag an_law_bag : Option Addr} {sl_law_bag : Array (Option Value)} {oc_law_bag kV_law_bag dc_law_bag pm_law_bag cd_law_bag ct_law_bag : Value}
    {od_law an_law : Option Addr} {sl_law : Array (Option Value)} {oc_law kV_law dc_law pm_law cd_law ct_law : Value}
    {od_Wrong___init__ an_Wrong___init__ : Option Addr} {sl_Wrong___init__ : Array (Option Value)} {oc_Wrong___init__ kV_Wrong___init__ dc_Wrong___init__ pm_Wrong___init__ cd_Wrong___init__ ct_Wrong___init__ : Value}
    {xnm_Wrong xq_Wrong : Str} {xN_Wrong : Addr} {xbs_Wrong xsub_Wrong : List Value} {xsn_Wrong : List Str} {xab_Wrong : Bool} {xcol_Wrong : Option Bool} {xdd_Wrong : Option Addr} {xk0_Wrong xk1_Wrong xk2_Wrong xk3_Wrong xk5_Wrong : Option Value}
    {t_MOST_PLACES : Tok}
    (g_NoText : PySem.W.nsIn K mainGlobals "NoText" = some (some (.ref C_NoText)))
    (g_Nothing : PySem.W.nsIn K mainGlobals "Nothing" = some (some (.ref C_Nothing)))
    (g_Ring : PySem.W.nsIn K mainGlobals "Ring" = some (some (.ref C_Ring)))
    (g_RingError : PySem.W.nsIn K mainGlobals "RingError" = some (some (.ref C_RingError)))
    (g_TooMany : PySem.W.nsIn K mainGlobals "TooMany" = some (some (.ref C_TooMany)))
    (g_Wrong : PySem.W.nsIn K mainGlobals "Wrong" = some (some (.ref C_Wrong)))
    (a_Ring___repr__ : PySem.W.findIn K (.ref C_Ring) "__repr__" = some (some (.ref f_Ring___repr__)))
    (i_Ring___repr__ : PySem.W.isFn K (.ref f_Ring___repr__) = true)
    (l_Ring___repr__ : K.lookup f_Ring___repr__ = some ⟨oc_Ring___repr__, od_Ring___repr__, .func (PySem.W.fnOf "__repr__" "Ring.__repr__" (defArgs s_Ring___repr__) (defBody s_Ring___repr__) (defScope s_Ring___repr__) .none kV_Ring___repr__ dc_Ring___repr__ pm_Ring___repr__ an_Ring___repr__ cd_Ring___repr__ ct_Ring___repr__), sl_Ring___repr__⟩)
    (c_Ring___repr__ : PySem.W.codeIn K cd_Ring___repr__ "Ring.__repr__" = true)
    (k_Ring___repr__ : PySem.W.keepIn K (.ref f_Ring___repr__) = true)
    (a_law_alike : PySem.W.nsIn K mainGlobals "_law_alike" = some (some (.ref f_law_alike)))
    (l_law_alike : K.lookup f_law_alike = some ⟨oc_law_alike, od_law_alike, .func (PySem.W.fnOf "_law_alike" "_law_alike" (defArgs s_law_alike) (defBody s_law_alike) (defScope s_law_alike) .none kV_law_alike dc_law_alike pm_law_alike an_law_alike cd_law_alike ct_law_alike), sl_law_alike⟩)
    (c_law_alike : PySem.W.codeIn K cd_law_alike "_law_alike" = true)
    (k_law_alike : PySem.W.keepIn K (.ref f_law_alike) = true)
    (a_Ring_ranks : PySem.W.findIn K (.ref C_Ring) "ranks" = some (some (.ref f_Ring_ranks)))
    (i_Ring_ranks : PySem.W.isFn K (.ref f_Ring_ranks) = true)
    (l_Ring_ranks : K.lookup f_Ring_ranks = some ⟨oc_Ring_ranks, od_Ring_ranks, .func (PySem.W.fnOf "ranks" "Ring.ranks" (defArgs s_Ring_ranks) (defBody s_Ring_ranks) (defScope s_Ring_ranks) .none kV_Ring_ranks dc_Ring_ranks pm_Ring_ranks an_Ring_ranks cd_Ring_ranks ct_Ring_ranks), sl_Ring_ranks⟩)
    (c_Ring_ranks : PySem.W.codeIn K cd_Ring_ranks "Ring.ranks" = true)
    (k_Ring_ranks : PySem.W.keepIn K (.ref f_Ring_ranks) = true)
    (a_is_integer : PySem.W.nsIn K mainGlobals "is_integer" = some (some (.ref f_is_integer)))
    (l_is_integer : K.lookup f_is_integer = some ⟨oc_is_integer, od_is_integer, .func (PySem.W.fnOf "is_integer" "is_integer" (defArgs s_is_integer) (defBody s_is_integer) (defScope s_is_integer) .none kV_is_integer dc_is_integer pm_is_integer an_is_integer cd_is_integer ct_is_integer), sl_is_integer⟩)
    (c_is_integer : PySem.W.codeIn K cd_is_integer "is_integer" = true)
    (k_is_integer : PySem.W.keepIn K (.ref f_is_integer) = true)
    (a_is_between : PySem.W.nsIn K mainGlobals "is_between" = some (some (.ref f_is_between)))
    (l_is_between : K.lookup f_is_between = some ⟨oc_is_between, od_is_between, .func (PySem.W.fnOf "is_between" "is_between" (defArgs s_is_between) (defBody s_is_between) (defScope s_is_between) .none kV_is_between dc_is_between pm_is_between an_is_between cd_is_between ct_is_between), sl_is_between⟩)
    (c_is_between : PySem.W.codeIn K cd_is_between "is_between" = true)
    (k_is_between : PySem.W.keepIn K (.ref f_is_between) = true)
    (a_is_size : PySem.W.nsIn K mainGlobals "is_size" = some (some (.ref f_is_size)))
    (l_is_size : K.lookup f_is_size = some ⟨oc_is_size, od_is_size, .func (PySem.W.fnOf "is_size" "is_size" (defArgs s_is_size) (defBody s_is_size) (defScope s_is_size) .none kV_is_size dc_is_size pm_is_size an_is_size cd_is_size ct_is_size), sl_is_size⟩)
    (c_is_size : PySem.W.codeIn K cd_is_size "is_size" = true)
    (k_is_size : PySem.W.keepIn K (.ref f_is_size) = true)
    (a_Ring___init__ : PySem.W.findIn K (.ref C_Ring) "__init__" = some (some (.ref f_Ring___init__)))
    (i_Ring___init__ : PySem.W.isFn K (.ref f_Ring___init__) = true)
    (l_Ring___init__ : K.lookup f_Ring___init__ = some ⟨oc_Ring___init__, od_Ring___init__, .func (PySem.W.fnOf "__init__" "Ring.__init__" (defArgs s_Ring___init__) (defBody s_Ring___init__) (defScope s_Ring___init__) .none kV_Ring___init__ dc_Ring___init__ pm_Ring___init__ an_Ring___init__ cd_Ring___init__ ct_Ring___init__), sl_Ring___init__⟩)
    (c_Ring___init__ : PySem.W.codeIn K cd_Ring___init__ "Ring.__init__" = true)
    (k_Ring___init__ : PySem.W.keepIn K (.ref f_Ring___init__) = true)
    (a_law_told : PySem.W.nsIn K mainGlobals "_law_told" = some (some (.ref f_law_told)))
    (l_law_told : K.lookup f_law_told = some ⟨oc_law_told, od_law_told, .func (PySem.W.fnOf "_law_told" "_law_told" (defArgs s_law_told) (defBody s_law_told) (defScope s_law_told) .none kV_law_told dc_law_told pm_law_told an_law_told cd_law_told ct_law_told), sl_law_told⟩)
    (c_law_told : PySem.W.codeIn K cd_law_told "_law_told" = true)
    (k_law_told : PySem.W.keepIn K (.ref f_law_told) = true)
    (a_law_whole : PySem.W.nsIn K mainGlobals "_law_whole" = some (some (.ref f_law_whole)))
    (l_law_whole : K.lookup f_law_whole = some ⟨oc_law_whole, od_law_whole, .func (PySem.W.fnOf "_law_whole" "_law_whole" (defArgs s_law_whole) (defBody s_law_whole) (defScope s_law_whole) .none kV_law_whole dc_law_whole pm_law_whole an_law_whole cd_law_whole ct_law_whole), sl_law_whole⟩)
    (c_law_whole : PySem.W.codeIn K cd_law_whole "_law_whole" = true)
    (k_law_whole : PySem.W.keepIn K (.ref f_law_whole) = true)
    (a_law_is_right : PySem.W.nsIn K mainGlobals "_law_is_right" = some (some (.ref f_law_is_right)))
    (l_law_is_right : K.lookup f_law_is_right = some ⟨oc_law_is_right, od_law_is_right, .func (PySem.W.fnOf "_law_is_right" "_law_is_right" (defArgs s_law_is_right) (defBody s_law_is_right) (defScope s_law_is_right) .none kV_law_is_right dc_law_is_right pm_law_is_right an_law_is_right cd_law_is_right ct_law_is_right), sl_law_is_right⟩)
    (c_law_is_right : PySem.W.codeIn K cd_law_is_right "_law_is_right" = true)
    (k_law_is_right : PySem.W.keepIn K (.ref f_law_is_right) = true)
    (a_law_take : PySem.W.nsIn K mainGlobals "_law_take" = some (some (.ref f_law_take)))
    (l_law_take : K.lookup f_law_take = some ⟨oc_law_take, od_law_take, .func (PySem.W.fnOf "_law_take" "_law_take" (defArgs s_law_take) (defBody s_law_take) (defScope s_law_take) .none kV_law_take dc_law_take pm_law_take an_law_take cd_law_take ct_law_take), sl_law_take⟩)
    (c_law_take : PySem.W.codeIn K cd_law_take "_law_take" = true)
    (k_law_take : PySem.W.keepIn K (.ref f_law_take) = true)
    (a_law_odd : PySem.W.nsIn K mainGlobals "_law_odd" = some (some (.ref f_law_odd)))
    (l_law_odd : K.lookup f_law_odd = some ⟨oc_law_odd, od_law_odd, .func (PySem.W.fnOf "_law_odd" "_law_odd" (defArgs s_law_odd) (defBody s_law_odd) (defScope s_law_odd) .none kV_law_odd dc_law_odd pm_law_odd an_law_odd cd_law_odd ct_law_odd), sl_law_odd⟩)
    (c_law_odd : PySem.W.codeIn K cd_law_odd "_law_odd" = true)
    (k_law_odd : PySem.W.keepIn K (.ref f_law_odd) = true)
    (a_law_spoiled : PySem.W.nsIn K mainGlobals "_law_spoiled" = some (some (.ref f_law_spoiled)))
    (l_law_spoiled : K.lookup f_law_spoiled = some ⟨oc_law_spoiled, od_law_spoiled, .func (PySem.W.fnOf "_law_spoiled" "_law_spoiled" (defArgs s_law_spoiled) (defBody s_law_spoiled) (defScope s_law_spoiled) .none kV_law_spoiled dc_law_spoiled pm_law_spoiled an_law_spoiled cd_law_spoiled ct_law_spoiled), sl_law_spoiled⟩)
    (c_law_spoiled : PySem.W.codeIn K cd_law_spoiled "_law_spoiled" = true)
    (k_law_spoiled : PySem.W.keepIn K (.ref f_law_spoiled) = true)
    (a_law_ranks : PySem.W.nsIn K mainGlobals "_law_ranks" = some (some (.ref f_law_ranks)))
    (l_law_ranks : K.lookup f_law_ranks = some ⟨oc_law_ranks, od_law_ranks, .func (PySem.W.fnOf "_law_ranks" "_law_ranks" (defArgs s_law_ranks) (defBody s_law_ranks) (defScope s_law_ranks) .none kV_law_ranks dc_law_ranks pm_law_ranks an_law_ranks cd_law_ranks ct_law_ranks), sl_law_ranks⟩)
    (c_law_ranks : PySem.W.codeIn K cd_law_ranks "_law_ranks" = true)
    (k_law_ranks : PySem.W.keepIn K (.ref f_law_ranks) = true)
    (a_law_some_size : PySem.W.nsIn K mainGlobals "_law_some_size" = some (some (.ref f_law_some_size)))
    (l_law_some_size : K.lookup f_law_some_size = some ⟨oc_law_some_size, od_law_some_size, .func (PySem.W.fnOf "_law_some_size" "_law_some_size" (defArgs s_law_some_size) (defBody s_law_some_size) (defScope s_law_some_size) .none kV_law_some_size dc_law_some_size pm_law_some_size an_law_some_size cd_law_some_size ct_law_some_size), sl_law_some_size⟩)
    (c_law_some_size : PySem.W.codeIn K cd_law_some_size "_law_some_size" = true)
    (k_law_some_size : PySem.W.keepIn K (.ref f_law_some_size) = true)
    (a_law_bag : PySem.W.nsIn K mainGlobals "_law_bag" = some (some (.ref f_law_bag)))
    (l_law_bag : K.lookup f_law_bag = some ⟨oc_law_bag, od_law_bag, .func (PySem.W.fnOf "_law_bag" "_law_bag" (defArgs s_law_bag) (defBody s_law_bag) (defScope s_law_bag) .none kV_law_bag dc_law_bag pm_law_bag an_law_bag cd_law_bag ct_law_bag), sl_law_bag⟩)
    (c_law_bag : PySem.W.codeIn K cd_law_bag "_law_bag" = true)
    (k_law_bag : PySem.W.keepIn K (.ref f_law_bag) = true)
    (a_law : PySem.W.nsIn K mainGlobals "law" = some (some (.ref f_law)))
    (l_law : K.lookup f_law = some ⟨oc_law, od_law, .func (PySem.W.fnOf "law" "law" (defArgs s_law) (defBody s_law) (defScope s_law) .none kV_law dc_law pm_law an_law cd_law ct_law), sl_law⟩)
    (c_law : PySem.W.codeIn K cd_law "law" = true)
    (k_law : PySem.W.keepIn K (.ref f_law) = true)
    (pg_Ring : PySem.W.plainGet K C_Ring Str.empty = true)
    (hd_Ring : PySem.W.hasDictIn K C_Ring = true)
    (po_Ring : PySem.W.plainOver K C_Ring = true)
    (sa_Ring : PySem.W.findIn K (.ref C_Ring) "__setattr__" = some (some (.builtin "object.__setattr__")))
    (n_Ring_rank_list : PySem.W.findIn K (.ref C_Ring) "rank_list" = some none)
    (mk_Ring : PySem.W.makesIn K C_Ring = true)
    (kc_Ring : PySem.W.keepIn K (.ref C_Ring) = true)
    (ha_Ring : PySem.W.findIn K (.ref C_Ring) "__class__" = some (some (.builtin "object.__class__")))
    (hn_Ring : PySem.W.specialIn K (.builtin "object.__class__") "__get__" = some (some (.builtin "getset_descriptor.__get__")))
    (ht_Ring : PySem.W.takesIn K (.builtin "object.__class__") = some true)
    (t1_Ring : PySem.W.kitOne K (.type "NoneType") (.ref C_Ring) = some false)
    (t2_Ring : PySem.W.kitOne K (.type "bool") (.ref C_Ring) = some false)
    (t3_Ring : PySem.W.kitOne K (.type "int") (.ref C_Ring) = some false)
    (t4_Ring : PySem.W.kitOne K (.type "str") (.ref C_Ring) = some false)
    (t5_Ring : PySem.W.kitOne K (.type "list") (.ref C_Ring) = some false)
    (t6_Ring : PySem.W.kitOne K (.type "tuple") (.ref C_Ring) = some false)
    (t7_Ring : PySem.W.kitOne K (.type "dict") (.ref C_Ring) = some false)
    (kx_Ring_list : PySem.W.kitOne K (.ref C_Ring) (.type "list") = some false)
    (hm_Ring : PySem.W.mroIn K C_Ring (.type "object") = some true)
    (xi_Wrong : PySem.W.findIn K (.ref C_Wrong) "__init__" = some (some (.ref f_Wrong___init__)))
    (l_Wrong___init__ : K.lookup f_Wrong___init__ = some ⟨oc_Wrong___init__, od_Wrong___init__, .func (PySem.W.fnOf "__init__" "Wrong.__init__" (defArgs s_Wrong___init__) (defBody s_Wrong___init__) (defScope s_Wrong___init__) .none kV_Wrong___init__ dc_Wrong___init__ pm_Wrong___init__ an_Wrong___init__ cd_Wrong___init__ ct_Wrong___init__), sl_Wrong___init__⟩)
    (c_Wrong___init__ : PySem.W.codeIn K cd_Wrong___init__ "Wrong.__init__" = true)
    (k_Wrong___init__ : PySem.W.keepIn K (.ref f_Wrong___init__) = true)
    (xt_Wrong : PySem.W.typeIn K (.ref f_Wrong___init__) = some (.type "function"))
    (xf_Wrong_place : PySem.W.findIn K (.ref C_Wrong) "place" = some none)
    (xo_Wrong : K.lookup C_Wrong = some (excClassObj xnm_Wrong xq_Wrong C_Wrong xN_Wrong xbs_Wrong [.ref C_RingError, .type "ValueError", .type "Exception", .type "BaseException", .type "object"] true xsn_Wrong xsub_Wrong xab_Wrong xcol_Wrong xdd_Wrong xk0_Wrong xk1_Wrong xk2_Wrong xk3_Wrong xk5_Wrong "ValueError.__new__"))
    (xs_Wrong : PySem.W.findIn K (.ref C_Wrong) "__setattr__" = some (some (.builtin "object.__setattr__")))
    (xk_Wrong : PySem.W.keepIn K (.ref C_Wrong) = true)
    (xe_NoText : PySem.W.subIn K (.ref C_NoText) (.type "BaseException") = some true)
    (xy_NoText : PySem.W.typeIn K (.ref C_NoText) = some (.type "type"))
    (xd_NoText : PySem.W.hasDictIn K C_NoText = true)
    (xe_Nothing : PySem.W.subIn K (.ref C_Nothing) (.type "BaseException") = some true)
    (xy_Nothing : PySem.W.typeIn K (.ref C_Nothing) = some (.type "type"))
    (xd_Nothing : PySem.W.hasDictIn K C_Nothing = true)
    (xe_RingError : PySem.W.subIn K (.ref C_RingError) (.type "BaseException") = some true)
    (xy_RingError : PySem.W.typeIn K (.ref C_RingError) = some (.type "type"))
    (xd_RingError : PySem.W.hasDictIn K C_RingError = true)
    (xe_TooMany : PySem.W.subIn K (.ref C_TooMany) (.type "BaseException") = some true)
    (xy_TooMany : PySem.W.typeIn K (.ref C_TooMany) = some (.type "type"))
    (xd_TooMany : PySem.W.hasDictIn K C_TooMany = true)
    (xe_Wrong : PySem.W.subIn K (.ref C_Wrong) (.type "BaseException") = some true)
    (xy_Wrong : PySem.W.typeIn K (.ref C_Wrong) = some (.type "type"))
    (xd_Wrong : PySem.W.hasDictIn K C_Wrong = true)
    (xr_RingError : PySem.W.readsIn K C_RingError (.type "type") = true)
    (xg_RingError : PySem.W.specialIn K (.ref C_RingError) "__getattribute__" = some (some (.builtin "type.__getattribute__")))
    (xv_RingError : PySem.W.findCls K (.ref C_RingError) (.type "type") "__init__" = some (.val (.builtin "ValueError.__init__")))
    (xga_NoText : PySem.W.findIn K (.ref C_NoText) "__getattribute__" = some (some (.builtin "BaseException.__getattribute__")))
    (xgg_NoText : PySem.W.findIn K (.ref C_NoText) "__getattr__" = some none)
    (xga_Nothing : PySem.W.findIn K (.ref C_Nothing) "__getattribute__" = some (some (.builtin "BaseException.__getattribute__")))
    (xgg_Nothing : PySem.W.findIn K (.ref C_Nothing) "__getattr__" = some none)
    (xga_TooMany : PySem.W.findIn K (.ref C_TooMany) "__getattribute__" = some (some (.builtin "BaseException.__getattribute__")))
    (xgg_TooMany : PySem.W.findIn K (.ref C_TooMany) "__getattr__" = some none)
    (xga_Wrong : PySem.W.findIn K (.ref C_Wrong) "__getattribute__" = some (some (.builtin "BaseException.__getattribute__")))
    (xgg_Wrong : PySem.W.findIn K (.ref C_Wrong) "__getattr__" = some none)
    (xhn : PySem.W.specialIn K (.builtin "object.__class__") "__get__" = some (some (.builtin "getset_descriptor.__get__")))
    (xht : PySem.W.takesIn K (.builtin "object.__class__") = some true)
    (xha_NoText : PySem.W.findIn K (.ref C_NoText) "__class__" = some (some (.builtin "object.__class__")))
    (xhm_NoText : PySem.W.mroIn K C_NoText (.type "object") = some true)
    (xha_Nothing : PySem.W.findIn K (.ref C_Nothing) "__class__" = some (some (.builtin "object.__class__")))
    (xhm_Nothing : PySem.W.mroIn K C_Nothing (.type "object") = some true)
    (xha_TooMany : PySem.W.findIn K (.ref C_TooMany) "__class__" = some (some (.builtin "object.__class__")))
    (xhm_TooMany : PySem.W.mroIn K C_TooMany (.type "object") = some true)
    (xha_Wrong : PySem.W.findIn K (.ref C_Wrong) "__class__" = some (some (.builtin "object.__class__")))
    (xhm_Wrong : PySem.W.mroIn K C_Wrong (.type "object") = some true)
    (xu_NoText_RingError : PySem.W.subIn K (.ref C_NoText) (.ref C_RingError) = some true)
    (xu_Nothing_RingError : PySem.W.subIn K (.ref C_Nothing) (.ref C_RingError) = some true)
    (xu_TooMany_RingError : PySem.W.subIn K (.ref C_TooMany) (.ref C_RingError) = some true)
    (xu_Wrong_RingError : PySem.W.subIn K (.ref C_Wrong) (.ref C_RingError) = some true)
    (xw_NoText_NoText : PySem.W.kitOne K (.ref C_NoText) (.ref C_NoText) = some true)
    (xw_Nothing_NoText : PySem.W.kitOne K (.ref C_Nothing) (.ref C_NoText) = some false)
    (xw_TooMany_NoText : PySem.W.kitOne K (.ref C_TooMany) (.ref C_NoText) = some false)
    (xw_Wrong_NoText : PySem.W.kitOne K (.ref C_Wrong) (.ref C_NoText) = some false)
    (xw_NoText_Nothing : PySem.W.kitOne K (.ref C_NoText) (.ref C_Nothing) = some false)
    (xw_Nothing_Nothing : PySem.W.kitOne K (.ref C_Nothing) (.ref C_Nothing) = some true)
    (xw_TooMany_Nothing : PySem.W.kitOne K (.ref C_TooMany) (.ref C_Nothing) = some false)
    (xw_Wrong_Nothing : PySem.W.kitOne K (.ref C_Wrong) (.ref C_Nothing) = some false)
    (xw_NoText_TooMany : PySem.W.kitOne K (.ref C_NoText) (.ref C_TooMany) = some false)
    (xw_Nothing_TooMany : PySem.W.kitOne K (.ref C_Nothing) (.ref C_TooMany) = some false)
    (xw_TooMany_TooMany : PySem.W.kitOne K (.ref C_TooMany) (.ref C_TooMany) = some true)
    (xw_Wrong_TooMany : PySem.W.kitOne K (.ref C_Wrong) (.ref C_TooMany) = some false)
    (xw_NoText_ValueError : PySem.W.kitOne K (.ref C_NoText) (.type "ValueError") = some true)
    (xw_Nothing_ValueError : PySem.W.kitOne K (.ref C_Nothing) (.type "ValueError") = some true)
    (xw_TooMany_ValueError : PySem.W.kitOne K (.ref C_TooMany) (.type "ValueError") = some true)
    (xw_Wrong_ValueError : PySem.W.kitOne K (.ref C_Wrong) (.type "ValueError") = some true)
    (xw_NoText_Wrong : PySem.W.kitOne K (.ref C_NoText) (.ref C_Wrong) = some false)
    (xw_Nothing_Wrong : PySem.W.kitOne K (.ref C_Nothing) (.ref C_Wrong) = some false)
    (xw_TooMany_Wrong : PySem.W.kitOne K (.ref C_TooMany) (.ref C_Wrong) = some false)
    (xw_Wrong_Wrong : PySem.W.kitOne K (.ref C_Wrong) (.ref C_Wrong) = some true)
    (z_ValueError : PySem.W.nsIn K mainGlobals "ValueError" = some none)
    (z_abs : PySem.W.nsIn K mainGlobals "abs" = some none)
    (z_all : PySem.W.nsIn K mainGlobals "all" = some none)
    (z_bool : PySem.W.nsIn K mainGlobals "bool" = some none)
    (z_int : PySem.W.nsIn K mainGlobals "int" = some none)
    (z_isinstance : PySem.W.nsIn K mainGlobals "isinstance" = some none)
    (z_len : PySem.W.nsIn K mainGlobals "len" = some none)
    (z_list : PySem.W.nsIn K mainGlobals "list" = some none)
    (z_min : PySem.W.nsIn K mainGlobals "min" = some none)
    (z_range : PySem.W.nsIn K mainGlobals "range" = some none)
    (z_repr : PySem.W.nsIn K mainGlobals "repr" = some none)
    (z_tuple : PySem.W.nsIn K mainGlobals "tuple" = some none)
    (g_MOST_PLACES : PySem.W.nsIn K mainGlobals "MOST_PLACES" = some (some (.int 12 t_MOST_PLACES)))
    : ∃ fd : FuncData, (∀ (s : Shared) (v : Value), BindsTo s fd ⟨[v], []⟩ [("_law_script", v)]) ∧ ∀ base : Heap, K.In base → base.Ns mainGlobals mg → FnG l.prog w K mg base 7 fa fd ["_law_script"] (spD K [.S] slaw) := by
  have e := hfa.symm.trans (PySem.W.mg_of X G a_law)
  cases e
  have F_Ring___repr__ := fun_mk (st := s_Ring___repr__) l_Ring___repr__ c_Ring___repr__ k_Ring___repr__
  have b_Ring___repr__ := F_Ring___repr__.binds (ps := ["self"]) fun _ _ _ _ _ _ us hl => match us, hl with | [_], _ => rfl
  have F_law_alike := fun_mk (st := s_law_alike) l_law_alike c_law_alike k_law_alike
  have b_law_alike := F_law_alike.binds (ps := ["_law_found", "_law_due"]) fun _ _ _ _ _ _ us hl => match us, hl with | [_, _], _ => rfl
  have F_Ring_ranks := fun_mk (st := s_Ring_ranks) l_Ring_ranks c_Ring_ranks k_Ring_ranks
  have b_Ring_ranks := F_Ring_ranks.binds (ps := ["self"]) fun _ _ _ _ _ _ us hl => match us, hl with | [_], _ => rfl
  have F_is_integer := fun_mk (st := s_is_integer) l_is_integer c_is_integer k_is_integer
  have b_is_integer := F_is_integer.binds (ps := ["thing"]) fun _ _ _ _ _ _ us hl => match us, hl with | [_], _ => rfl
  have F_is_between := fun_mk (st := s_is_between) l_is_between c_is_between k_is_between
  have b_is_between := F_is_between.binds (ps := ["thing", "least", "most"]) fun _ _ _ _ _ _ us hl => match us, hl with | [_, _, _], _ => rfl
  have F_is_size := fun_mk (st := s_is_size) l_is_size c_is_size k_is_size
  have b_is_size := F_is_size.binds (ps := ["thing"]) fun _ _ _ _ _ _ us hl => match us, hl with | [_], _ => rfl
  have F_Ring___init__ := fun_mk (st := s_Ring___init__) l_Ring___init__ c_Ring___init__ k_Ring___init__
  have b_Ring___init__ := F_Ring___init__.binds (ps := ["self", "ranks"]) fun _ _ _ _ _ _ us hl => match us, hl with | [_, _], _ => rfl
  have F_law_told := fun_mk (st := s_law_told) l_law_told c_law_told k_law_told
  have b_law_told := F_law_told.binds (ps := ["_law_thing"]) fun _ _ _ _ _ _ us hl => match us, hl with | [_], _ => rfl
  have F_law_whole := fun_mk (st := s_law_whole) l_law_whole c_law_whole k_law_whole
  have b_law_whole := F_law_whole.binds (ps := ["_law_thing"]) fun _ _ _ _ _ _ us hl => match us, hl with | [_], _ => rfl
  have F_law_is_right := fun_mk (st := s_law_is_right) l_law_is_right c_law_is_right k_law_is_right
  have b_law_is_right := F_law_is_right.binds (ps := ["_law_thing"]) fun _ _ _ _ _ _ us hl => match us, hl with | [_], _ => rfl
  have F_law_take := fun_mk (st := s_law_take) l_law_take c_law_take k_law_take
  have b_law_take := F_law_take.binds (ps := ["_law_bag_here", "_law_many"]) fun _ _ _ _ _ _ us hl => match us, hl with | [_, _], _ => rfl
  have F_law_odd := fun_mk (st := s_law_odd) l_law_odd c_law_odd k_law_odd
  have b_law_odd := F_law_odd.binds (ps := ["_law_bag_here", "_law_size"]) fun _ _ _ _ _ _ us hl => match us, hl with | [_, _], _ => rfl
  have F_law_spoiled := fun_mk (st := s_law_spoiled) l_law_spoiled c_law_spoiled k_law_spoiled
  have b_law_spoiled := F_law_spoiled.binds (ps := ["_law_bag_here", "_law_thing"]) fun _ _ _ _ _ _ us hl => match us, hl with | [_, _], _ => rfl
  have F_law_ranks := fun_mk (st := s_law_ranks) l_law_ranks c_law_ranks k_law_ranks
  have b_law_ranks := F_law_ranks.binds (ps := ["_law_bag_here", "_law_size"]) fun _ _ _ _ _ _ us hl => match us, hl with | [_, _], _ => rfl
  have F_law_some_size := fun_mk (st := s_law_some_size) l_law_some_size c_law_some_size k_law_some_size
  have b_law_some_size := F_law_some_size.binds (ps := ["_law_bag_here", "_law_most"]) fun _ _ _ _ _ _ us hl => match us, hl with | [_, _], _ => rfl
  have F_law_bag := fun_mk (st := s_law_bag) l_law_bag c_law_bag k_law_bag
  have b_law_bag := F_law_bag.binds (ps := ["_law_script"]) fun _ _ _ _ _ _ us hl => match us, hl with | [_], _ => rfl
  have F_law := fun_mk (st := s_law) l_law c_law k_law
  have b_law := F_law.binds (ps := ["_law_script"]) fun _ _ _ _ _ _ us hl => match us, hl with | [_], _ => rfl
  have F_Wrong___init__ := fun_mk (st := s_Wrong___init__) l_Wrong___init__ c_Wrong___init__ k_Wrong___init__
  have b_Wrong___init__ := F_Wrong___init__.binds (ps := ["self", "place"]) fun _ _ _ _ _ _ us hl => match us, hl with | [_, _], _ => rfl
  have xc_Wrong : XcK K C_Wrong f_Wrong___init__ ["place"] := ⟨⟨⟨_, _, _, _, _, _, _, _, _, _, _, _, _, _, _, xo_Wrong, rfl⟩, xs_Wrong, xe_Wrong, xy_Wrong, xk_Wrong⟩, xi_Wrong, xt_Wrong, fun f hf => by (simp only [List.mem_cons, List.not_mem_nil, or_false] at hf; subst hf; exact xf_Wrong_place)⟩
  have ex_RingError : XEx K C_RingError _ := XEx.cons g_NoText (PySem.W.exm_ref xe_RingError xd_RingError xy_RingError xu_NoText_RingError) <| XEx.cons g_Nothing (PySem.W.exm_ref xe_RingError xd_RingError xy_RingError xu_Nothing_RingError) <| XEx.cons g_TooMany (PySem.W.exm_ref xe_RingError xd_RingError xy_RingError xu_TooMany_RingError) <| XEx.cons g_Wrong (PySem.W.exm_ref xe_RingError xd_RingError xy_RingError xu_Wrong_RingError) <| XEx.nil
  have xx_NoText : ExcC K C_NoText := ⟨xga_NoText, xgg_NoText, xe_NoText, xd_NoText, xha_NoText, xhn, xht, xhm_NoText⟩
  have xx_Nothing : ExcC K C_Nothing := ⟨xga_Nothing, xgg_Nothing, xe_Nothing, xd_Nothing, xha_Nothing, xhn, xht, xhm_Nothing⟩
  have xx_TooMany : ExcC K C_TooMany := ⟨xga_TooMany, xgg_TooMany, xe_TooMany, xd_TooMany, xha_TooMany, xhn, xht, xhm_TooMany⟩
  have xx_Wrong : ExcC K C_Wrong := ⟨xga_Wrong, xgg_Wrong, xe_Wrong, xd_Wrong, xha_Wrong, xhn, xht, xhm_Wrong⟩
  have is_NoText : XIs K (.ref C_NoText) _ := XIs.cons g_NoText xx_NoText xw_NoText_NoText <| XIs.cons g_Nothing xx_Nothing xw_Nothing_NoText <| XIs.cons g_TooMany xx_TooMany xw_TooMany_NoText <| XIs.cons g_Wrong xx_Wrong xw_Wrong_NoText <| XIs.nil
  have is_Nothing : XIs K (.ref C_Nothing) _ := XIs.cons g_NoText xx_NoText xw_NoText_Nothing <| XIs.cons g_Nothing xx_Nothing xw_Nothing_Nothing <| XIs.cons g_TooMany xx_TooMany xw_TooMany_Nothing <| XIs.cons g_Wrong xx_Wrong xw_Wrong_Nothing <| XIs.nil
  have is_TooMany : XIs K (.ref C_TooMany) _ := XIs.cons g_NoText xx_NoText xw_NoText_TooMany <| XIs.cons g_Nothing xx_Nothing xw_Nothing_TooMany <| XIs.cons g_TooMany xx_TooMany xw_TooMany_TooMany <| XIs.cons g_Wrong xx_Wrong xw_Wrong_TooMany <| XIs.nil
  have is_ValueError : XIs K (.type "ValueError") _ := XIs.cons g_NoText xx_NoText xw_NoText_ValueError <| XIs.cons g_Nothing xx_Nothing xw_Nothing_ValueError <| XIs.cons g_TooMany xx_TooMany xw_TooMany_ValueError <| XIs.cons g_Wrong xx_Wrong xw_Wrong_ValueError <| XIs.nil
  have is_Wrong : XIs K (.ref C_Wrong) _ := XIs.cons g_NoText xx_NoText xw_NoText_Wrong <| XIs.cons g_Nothing xx_Nothing xw_Nothing_Wrong <| XIs.cons g_TooMany xx_TooMany xw_TooMany_Wrong <| XIs.cons g_Wrong xx_Wrong xw_Wrong_Wrong <| XIs.nil
  have xf_place : XFd K "place" _ := XFd.cons g_Wrong ⟨xga_Wrong, xgg_Wrong, xe_Wrong, xd_Wrong⟩ xf_Wrong_place <| XFd.nil
  have cl_Ring : Cls K C_Ring := ⟨pg_Ring, hd_Ring, po_Ring, sa_Ring⟩
  have in_Ring : InsD K C_Ring := ⟨cl_Ring, ha_Ring, hn_Ring, ht_Ring, hm_Ring, t1_Ring, t2_Ring, t3_Ring, t4_Ring, t5_Ring, t6_Ring, t7_Ring⟩
  refine ⟨PySem.W.fnOf "law" "law" (defArgs s_law) (defBody s_law) (defScope s_law) .none kV_law dc_law pm_law an_law cd_law ct_law, fun s v => .of_eq rfl, fun base _ _ => ?_⟩
  have G_Ring___repr__ := walk_Ring___repr__ (P := l.prog) (w := w) (mg := mg) (base := base) F_Ring___repr__ n_Ring_rank_list cl_Ring (sd := (sRing___repr__ C_Ring)) v_Ring___repr__
  have G_law_alike := walk_law_alike (P := l.prog) (w := w) (mg := mg) (base := base) F_law_alike (PySem.W.mg_none_of X G z_repr) (sd := slaw_alike) v_law_alike
  have G_Ring_ranks := walk_Ring_ranks (P := l.prog) (w := w) (mg := mg) (base := base) F_Ring_ranks n_Ring_rank_list cl_Ring (PySem.W.mg_none_of X G z_list) (sd := (sRing_ranks C_Ring)) v_Ring_ranks
  have G_is_integer := walk_is_integer (P := l.prog) (w := w) (mg := mg) (base := base) F_is_integer (PySem.W.mg_none_of X G z_isinstance) (PySem.W.mg_none_of X G z_bool) (PySem.W.mg_none_of X G z_int) (sd := sis_integer) v_is_integer
  have G_is_between := walk_is_between (P := l.prog) (w := w) (mg := mg) (base := base) F_is_between G_is_integer (PySem.W.mg_of X G a_is_integer) k_is_integer b_is_integer (sd := sis_between) v_is_between
  have G_is_size := walk_is_size (P := l.prog) (w := w) (mg := mg) (base := base) F_is_size G_is_between (PySem.W.mg_of X G a_is_between) k_is_between b_is_between (PySem.W.mg_of X G g_MOST_PLACES) (sd := sis_size) v_is_size
  have G_Ring___init__ := walk_Ring___init__ (P := l.prog) (w := w) (mg := mg) (base := base) F_Ring___init__ G_is_integer (PySem.W.mg_of X G a_is_integer) k_is_integer b_is_integer G_is_size (PySem.W.mg_of X G a_is_size) k_is_size b_is_size n_Ring_rank_list cl_Ring in_Ring kx_Ring_list (walk_Wrong___init__ (P := l.prog) (w := w) (mg := mg) (base := base) F_Wrong___init__ (PySem.W.mg_of X G g_RingError) xr_RingError xg_RingError xv_RingError) b_Wrong___init__ xc_Wrong g_Wrong (PySem.W.mg_of X G g_Wrong) (PySem.W.mg_none_of X G z_list) (PySem.W.mg_none_of X G z_all) (PySem.W.mg_none_of X G z_len) (PySem.W.mg_none_of X G z_isinstance) (sd := (sRing___init__ C_Ring C_Wrong)) v_Ring___init__
  have G_law_told := walk_law_told (P := l.prog) (w := w) (mg := mg) (base := base) F_law_told G_Ring_ranks b_Ring_ranks G_Ring___init__ b_Ring___init__ ex_RingError (PySem.W.mg_of X G g_RingError) (PySem.W.mg_of X G g_NoText) (PySem.W.mg_of X G g_Nothing) (PySem.W.mg_of X G g_TooMany) (PySem.W.mg_of X G g_Wrong) cl_Ring ⟨a_Ring_ranks, i_Ring_ranks, k_Ring_ranks⟩ ⟨mk_Ring, a_Ring___init__, i_Ring___init__, kc_Ring⟩ (PySem.W.mg_of X G g_Ring) xf_place is_ValueError is_NoText is_Nothing is_TooMany is_Wrong (PySem.W.mg_none_of X G z_isinstance) (PySem.W.mg_none_of X G z_ValueError) (sd := (slaw_told C_NoText C_Nothing C_Ring C_RingError C_TooMany C_Wrong)) v_law_told
  have G_law_whole := walk_law_whole (P := l.prog) (w := w) (mg := mg) (base := base) F_law_whole (PySem.W.mg_none_of X G z_isinstance) (PySem.W.mg_none_of X G z_bool) (PySem.W.mg_none_of X G z_int) (sd := slaw_whole) v_law_whole
  have G_law_is_right := walk_law_is_right (P := l.prog) (w := w) (mg := mg) (base := base) F_law_is_right G_law_whole (PySem.W.mg_of X G a_law_whole) k_law_whole b_law_whole in_Ring kx_Ring_list (PySem.W.mg_none_of X G z_len) (PySem.W.mg_none_of X G z_isinstance) (PySem.W.mg_none_of X G z_list) (sd := (slaw_is_right C_Ring)) v_law_is_right
  have G_law_take := walk_law_take (P := l.prog) (w := w) (mg := mg) (base := base) F_law_take (PySem.W.mg_none_of X G z_len) (sd := slaw_take) v_law_take
  have G_law_odd := walk_law_odd (P := l.prog) (w := w) (mg := mg) (base := base) F_law_odd G_law_take (PySem.W.mg_of X G a_law_take) k_law_take b_law_take (sd := slaw_odd) v_law_odd
  have G_law_spoiled := walk_law_spoiled (P := l.prog) (w := w) (mg := mg) (base := base) F_law_spoiled G_law_odd (PySem.W.mg_of X G a_law_odd) k_law_odd b_law_odd G_law_take (PySem.W.mg_of X G a_law_take) k_law_take b_law_take G_Ring___init__ b_Ring___init__ in_Ring kx_Ring_list ⟨mk_Ring, a_Ring___init__, i_Ring___init__, kc_Ring⟩ (PySem.W.mg_of X G g_Ring) (PySem.W.mg_none_of X G z_tuple) (PySem.W.mg_none_of X G z_list) (PySem.W.mg_none_of X G z_len) (PySem.W.mg_none_of X G z_isinstance) (sd := (slaw_spoiled C_Ring C_Wrong)) v_law_spoiled
  have G_law_ranks := walk_law_ranks (P := l.prog) (w := w) (mg := mg) (base := base) F_law_ranks G_law_take (PySem.W.mg_of X G a_law_take) k_law_take b_law_take (PySem.W.mg_none_of X G z_int) (PySem.W.mg_none_of X G z_range) (sd := slaw_ranks) v_law_ranks
  have G_law_some_size := walk_law_some_size (P := l.prog) (w := w) (mg := mg) (base := base) F_law_some_size G_law_take (PySem.W.mg_of X G a_law_take) k_law_take b_law_take (PySem.W.mg_none_of X G z_min) (sd := slaw_some_size) v_law_some_size
  have G_law_bag := walk_law_bag (P := l.prog) (w := w) (mg := mg) (base := base) F_law_bag (PySem.W.mg_none_of X G z_abs) (sd := slaw_bag) v_law_bag
  have G_law := walk_law (P := l.prog) (w := w) (mg := mg) (base := base) F_law G_Ring___repr__ b_Ring___repr__ G_law_alike (PySem.W.mg_of X G a_law_alike) k_law_alike b_law_alike G_law_told (PySem.W.mg_of X G a_law_told) k_law_told b_law_told G_law_is_right (PySem.W.mg_of X G a_law_is_right) k_law_is_right b_law_is_right G_law_take (PySem.W.mg_of X G a_law_take) k_law_take b_law_take G_law_spoiled (PySem.W.mg_of X G a_law_spoiled) k_law_spoiled b_law_spoiled G_law_ranks (PySem.W.mg_of X G a_law_ranks) k_law_ranks b_law_ranks G_law_some_size (PySem.W.mg_of X G a_law_some_size) k_law_some_size b_law_some_size G_law_bag (PySem.W.mg_of X G a_law_bag) k_law_bag b_law_bag ⟨a_Ring___repr__, i_Ring___repr__, k_Ring___repr__⟩ (PySem.W.mg_none_of X G z_range) (PySem.W.mg_none_of X G z_repr) (PySem.W.mg_none_of X G z_list) (sd := slaw) v_law
  exact G_law
theorem law_true : lawSp slaw := fun ns _ => law_fin ns
end LW
open PySem PySem.W PyProof.Rows
set_option maxHeartbeats 0 in
theorem PySem.Challenge.cw_ringcalls_k14_rings_refused_holds : PySem.Challenge.rw_ringcalls_k14_rings_refused.Holds := by
  w_on; o_law; k_head; (case hw => w_witness2)
  k_fill
  refine DL.walk_g (l := PySem.Challenge.rw_ringcalls_k14_rings_refused) (n := 63) (k := 7) (x := "_law_script") (sd := LW.slaw) rfl (by decide) rfl ⟨rfl, by decide, by decide⟩ (fun w h Y => PySem.W.kIn_of Y) ?F LW.law_true
  case F =>
    intro w mg fa h KX G hmg
    refine' LW.all_mk KX G hmg ?g_NoText ?g_Nothing ?g_Ring ?g_RingError ?g_TooMany ?g_Wrong ?a_Ring___repr__ ?i_Ring___repr__ ?l_Ring___repr__ ?c_Ring___repr__ ?k_Ring___repr__ ?a_law_alike ?l_law_alike ?c_law_alike ?k_law_alike ?a_Ring_ranks ?i_Ring_ranks ?l_Ring_ranks ?c_Ring_ranks ?k_Ring_ranks ?a_is_integer ?l_is_integer ?c_is_integer ?k_is_integer ?a_is_between ?l_is_between ?c_is_between ?k_is_between ?a_is_size ?l_is_size ?c_is_size ?k_is_size ?a_Ring___init__ ?i_Ring___init__ ?l_Ring___init__ ?c_Ring___init__ ?k_Ring___init__ ?a_law_told ?l_law_told ?c_law_told ?k_law_told ?a_law_whole ?l_law_whole ?c_law_whole ?k_law_whole ?a_law_is_right ?l_law_is_right ?c_law_is_right ?k_law_is_right ?a_law_take ?l_law_take ?c_law_take ?k_law_take ?a_law_odd ?l_law_odd ?c_law_odd ?k_law_odd ?a_law_spoiled ?l_law_spoiled ?c_law_spoiled ?k_law_spoiled ?a_law_ranks ?l_law_ranks ?c_law_ranks ?k_law_ranks ?a_law_some_size ?l_law_some_size ?c_law_some_size ?k_law_some_size ?a_law_bag ?l_law_bag ?c_law_bag ?k_law_bag ?a_law ?l_law ?c_law ?k_law ?pg_Ring ?hd_Ring ?po_Ring ?sa_Ring ?n_Ring_rank_list ?mk_Ring ?kc_Ring ?ha_Ring ?hn_Ring ?ht_Ring ?t1_Ring ?t2_Ring ?t3_Ring ?t4_Ring ?t5_Ring ?t6_Ring ?t7_Ring ?kx_Ring_list ?hm_Ring ?xi_Wrong ?l_Wrong___init__ ?c_Wrong___init__ ?k_Wrong___init__ ?xt_Wrong ?xf_Wrong_place ?xo_Wrong ?xs_Wrong ?xk_Wrong ?xe_NoText ?xy_NoText ?xd_NoText ?xe_Nothing ?xy_Nothing ?xd_Nothing ?xe_RingError ?xy_RingError ?xd_RingError ?xe_TooMany ?xy_TooMany ?xd_TooMany ?xe_Wrong ?xy_Wrong ?xd_Wrong ?xr_RingError ?xg_RingError ?xv_RingError ?xga_NoText ?xgg_NoText ?xga_Nothing ?xgg_Nothing ?xga_TooMany ?xgg_TooMany ?xga_Wrong ?xgg_Wrong ?xhn ?xht ?xha_NoText ?xhm_NoText ?xha_Nothing ?xhm_Nothing ?xha_TooMany ?xhm_TooMany ?xha_Wrong ?xhm_Wrong ?xu_NoText_RingError ?xu_Nothing_RingError ?xu_TooMany_RingError ?xu_Wrong_RingError ?xw_NoText_NoText ?xw_Nothing_NoText ?xw_TooMany_NoText ?xw_Wrong_NoText ?xw_NoText_Nothing ?xw_Nothing_Nothing ?xw_TooMany_Nothing ?xw_Wrong_Nothing ?xw_NoText_TooMany ?xw_Nothing_TooMany ?xw_TooMany_TooMany ?xw_Wrong_TooMany ?xw_NoText_ValueError ?xw_Nothing_ValueError ?xw_TooMany_ValueError ?xw_Wrong_ValueError ?xw_NoText_Wrong ?xw_Nothing_Wrong ?xw_TooMany_Wrong ?xw_Wrong_Wrong ?z_ValueError ?z_abs ?z_all ?z_bool ?z_int ?z_isinstance ?z_len ?z_list ?z_min ?z_range ?z_repr ?z_tuple ?g_MOST_PLACES
    (case g_NoText => k_is); (case g_Nothing => k_is); (case g_Ring => k_is); (case g_RingError => k_is); (case g_TooMany => k_is); (case g_Wrong => k_is); (case a_Ring___repr__ => k_is); (case i_Ring___repr__ => k_is); (case l_Ring___repr__ => k_is); (case c_Ring___repr__ => k_is); (case k_Ring___repr__ => k_is); (case a_law_alike => k_is); (case l_law_alike => k_is); (case c_law_alike => k_is); (case k_law_alike => k_is); (case a_Ring_ranks => k_is); (case i_Ring_ranks => k_is); (case l_Ring_ranks => k_is); (case c_Ring_ranks => k_is); (case k_Ring_ranks => k_is); (case a_is_integer => k_is); (case l_is_integer => k_is); (case c_is_integer => k_is); (case k_is_integer => k_is); (case a_is_between => k_is); (case l_is_between => k_is); (case c_is_between => k_is); (case k_is_between => k_is); (case a_is_size => k_is); (case l_is_size => k_is); (case c_is_size => k_is); (case k_is_size => k_is); (case a_Ring___init__ => k_is); (case i_Ring___init__ => k_is); (case l_Ring___init__ => k_is); (case c_Ring___init__ => k_is); (case k_Ring___init__ => k_is); (case a_law_told => k_is); (case l_law_told => k_is); (case c_law_told => k_is); (case k_law_told => k_is); (case a_law_whole => k_is); (case l_law_whole => k_is); (case c_law_whole => k_is); (case k_law_whole => k_is); (case a_law_is_right => k_is); (case l_law_is_right => k_is); (case c_law_is_right => k_is); (case k_law_is_right => k_is); (case a_law_take => k_is); (case l_law_take => k_is); (case c_law_take => k_is); (case k_law_take => k_is); (case a_law_odd => k_is); (case l_law_odd => k_is); (case c_law_odd => k_is); (case k_law_odd => k_is); (case a_law_spoiled => k_is); (case l_law_spoiled => k_is); (case c_law_spoiled => k_is); (case k_law_spoiled => k_is); (case a_law_ranks => k_is); (case l_law_ranks => k_is); (case c_law_ranks => k_is); (case k_law_ranks => k_is); (case a_law_some_size => k_is); (case l_law_some_size => k_is); (case c_law_some_size => k_is); (case k_law_some_size => k_is); (case a_law_bag => k_is); (case l_law_bag => k_is); (case c_law_bag => k_is); (case k_law_bag => k_is); (case a_law => k_is); (case l_law => k_is); (case c_law => k_is); (case k_law => k_is); (case pg_Ring => k_is); (case hd_Ring => k_is); (case po_Ring => k_is); (case sa_Ring => k_is); (case n_Ring_rank_list => k_is); (case mk_Ring => k_is); (case kc_Ring => k_is); (case ha_Ring => k_is); (case hn_Ring => k_is); (case ht_Ring => k_is); (case t1_Ring => kit_is); (case t2_Ring => kit_is); (case t3_Ring => kit_is); (case t4_Ring => kit_is); (case t5_Ring => kit_is); (case t6_Ring => kit_is); (case t7_Ring => kit_is); (case kx_Ring_list => kit_is); (case hm_Ring => k_is); (case xi_Wrong => k_is); (case l_Wrong___init__ => k_is); (case c_Wrong___init__ => k_is); (case k_Wrong___init__ => k_is); (case xt_Wrong => k_is); (case xf_Wrong_place => k_is); (case xo_Wrong => k_is); (case xs_Wrong => k_is); (case xk_Wrong => k_is); (case xe_NoText => k_is); (case xy_NoText => k_is); (case xd_NoText => k_is); (case xe_Nothing => k_is); (case xy_Nothing => k_is); (case xd_Nothing => k_is); (case xe_RingError => k_is); (case xy_RingError => k_is); (case xd_RingError => k_is); (case xe_TooMany => k_is); (case xy_TooMany => k_is); (case xd_TooMany => k_is); (case xe_Wrong => k_is); (case xy_Wrong => k_is); (case xd_Wrong => k_is); (case xr_RingError => k_is); (case xg_RingError => k_is); (case xv_RingError => k_is); (case xga_NoText => k_is); (case xgg_NoText => k_is); (case xga_Nothing => k_is); (case xgg_Nothing => k_is); (case xga_TooMany => k_is); (case xgg_TooMany => k_is); (case xga_Wrong => k_is); (case xgg_Wrong => k_is); (case xhn => k_is); (case xht => k_is); (case xha_NoText => k_is); (case xhm_NoText => k_is); (case xha_Nothing => k_is); (case xhm_Nothing => k_is); (case xha_TooMany => k_is); (case xhm_TooMany => k_is); (case xha_Wrong => k_is); (case xhm_Wrong => k_is); (case xu_NoText_RingError => k_is); (case xu_Nothing_RingError => k_is); (case xu_TooMany_RingError => k_is); (case xu_Wrong_RingError => k_is); (case xw_NoText_NoText => kit_is); (case xw_Nothing_NoText => kit_is); (case xw_TooMany_NoText => kit_is); (case xw_Wrong_NoText => kit_is); (case xw_NoText_Nothing => kit_is); (case xw_Nothing_Nothing => kit_is); (case xw_TooMany_Nothing => kit_is); (case xw_Wrong_Nothing => kit_is); (case xw_NoText_TooMany => kit_is); (case xw_Nothing_TooMany => kit_is); (case xw_TooMany_TooMany => kit_is); (case xw_Wrong_TooMany => kit_is); (case xw_NoText_ValueError => kit_is); (case xw_Nothing_ValueError => kit_is); (case xw_TooMany_ValueError => kit_is); (case xw_Wrong_ValueError => kit_is); (case xw_NoText_Wrong => kit_is); (case xw_Nothing_Wrong => kit_is); (case xw_TooMany_Wrong => kit_is); (case xw_Wrong_Wrong => kit_is); (case z_ValueError => k_is); (case z_abs => k_is); (case z_all => k_is); (case z_bool => k_is); (case z_int => k_is); (case z_isinstance => k_is); (case z_len => k_is); (case z_list => k_is); (case z_min => k_is); (case z_range => k_is); (case z_repr => k_is); (case z_tuple => k_is); (case g_MOST_PLACES => k_is)
