import PyProof.Rows.All
import Wide.All
import OpenK.AllK
import Wide.FinOn
import HandS.ForMost
import HandS.Flow
import HandS.Style
import HandS.IsInst
import HandS.Deep
import HandS.RevRange
import HandS.Wide
import PySem.Challenge.RW_leftin_k07_answers_by_hand
import HandS.Conv
import KE.KDictDisplayH
import HandS.ExcValue
import PyProof.ListNew
import PyProof.ZipIter
import KE.KDictZip
import KE.KTurns
import HandS.SetFor
import HandS.Strs
import PyProof.Rows.SetFrom
set_option Elab.async false
set_option linter.all false
set_option maxRecDepth 100000
set_option maxHeartbeats 2000000
set_option autoImplicit false
/-! Lf: a layer of pure values over HandS: what expressions and statements come to, with no heap in sight. -/
namespace Lf
open PySem L2

/-! quick side conditions: what an expression is not, by its head alone -/
def nsE : Expr → Bool | .Starred _ _ => false | _ => true
def nsC : Expr → Bool | .ListComp _ _ _ _ => false | .SetComp _ _ _ _ => false | .DictComp _ _ _ _ _ => false | _ => true
def nsS : Expr → Bool | .Set _ _ _ => false | _ => true
def nsB : Expr → Bool | .UnaryOp _ _ _ => false | .BoolOp _ _ _ => false | .IfExp _ _ _ _ => false | .Compare _ _ _ _ => false | _ => true
def nsX : Expr → Bool | .Slice _ _ _ _ => false | .Tuple _ _ _ => false | _ => true
def nsT : Expr → Bool | .Tuple _ _ _ => false | _ => true
theorem star_c {e : Expr} {es : List Expr} {env : Env} (h : nsE e = true) : starEach (e :: es) env = (false, eval e env) :: starEach es env := by
  cases e <;> first | rfl | cases h
theorem star_1 {e : Expr} {env : Env} (h : nsE e = true) : starEach [e] env = [(false, eval e env)] := by
  rw [star_c h]; rfl
theorem back_ns {pos : Pos} {env : Env} : ∀ {es : List Expr}, es.all nsE = true → (backTo pos (starEach es env)).any (·.1) = false
  | [], _ => rfl
  | e :: es, h => by
    rw [List.all_cons, Bool.and_eq_true] at h
    rw [star_c h.1]
    show (false || (backTo pos (starEach es env)).any (·.1)) = false
    rw [back_ns h.2]; rfl
theorem sw_ns {e : Expr} {t : Option Expr} {n : Nat} {env : Env} (h : nsC e = true) : swapsWith e t n env = pure false := by
  cases e <;> first | rfl | cases h
theorem sws_ns {t e : Expr} {n : Nat} {env : Env} (h : nsC e = true) : swapsWithSole [t] e n env = pure false := by
  show swapsWith e (some t) n env = pure false
  exact sw_ns h
theorem fs_ns {e : Expr} {env : Env} (h : nsS e = true) : ∀ x, foldedSetIterable e env x = pure x := by
  intro x
  cases e <;> first | rfl | cases h
theorem it_ns {e : Expr} {env : Env} (h : nsB e = true) : ∀ whole, isTrue e env whole = (do let v ← whole; standAt e.pos; holding [v] (truthy v)) := by
  intro w
  cases e <;> first | rfl | cases h
theorem px_ns {b : Expr} (h : nsX b = true) : PlainIx b := by
  intro o i
  cases b <;> first | rfl | cases h
theorem bm_ns {op : CmpOp} {b : Expr} (h : nsS b = true) : behindInMarks op b = false := by
  cases b <;> first | rfl | cases h
theorem lm_ns {o o' : CmpOp} {b c : Expr} (h : nsS c = true) : lastMarks [o, o'] [b, c] = false := by
  show behindInMarks o' c = false
  exact bm_ns h
theorem ss_sub {a b e : Expr} {p : Pos} {env : Env} : swappedStores [.Subscript a b p] e env = pure none := by
  cases e <;> rfl
theorem ss_tup {t e : Expr} {env : Env} (h : nsT e = true) : swappedStores [t] e env = pure none := by
  cases e <;> first | (cases t <;> rfl) | cases h

/-- a pure value -/
inductive D where
  | non
  | bl (b : Bool)
  | int (i : Int)
  | str (x : Str)
  | il (ns : List Int)
  | scr (ns : List Int)
  | lst (ds : List D)
  | tup (ds : List D)
  | obj (C : Addr) (fs : List (Str × D))
  | ptr (b : Addr)

def scal : D → Bool
  | .non => true
  | .bl _ => true
  | .int _ => true
  | .str _ => true
  | .ptr _ => true
  | _ => false

mutual
inductive Rp (K : PySem.W.Frag) (H : Hp) : V → D → Prop
  | non : Rp K H .non .non
  | bl (b : Bool) : Rp K H (.bl b) (.bl b)
  | int (i : Int) : Rp K H (.int i) (.int i)
  | str (x : Str) : Rp K H (.str x) (.str x)
  | il {a : Addr} {ns : List Int} : H a = some (.lst (ns.map V.int)) → Rp K H (.ref a) (.il ns)
  | scr {a : Addr} {ns : List Int} : SqL K H a (ns.map V.int) → Rp K H (.ref a) (.scr ns)
  | lst {a : Addr} {xs : List V} {ds : List D} : H a = some (.lst xs) → RpAll K H xs ds → Rp K H (.ref a) (.lst ds)
  | tup {a : Addr} {xs : List V} {ds : List D} : H a = some (.tup xs) → RpAll K H xs ds → Rp K H (.ref a) (.tup ds)
  | obj {a C dx : Addr} {fs : List (Str × V)} {gs : List (Str × D)} : H a = some (.ins C dx fs) → RpF K H fs gs → Rp K H (.ref a) (.obj C gs)
  | ptr (b : Addr) : Rp K H (.ref b) (.ptr b)
inductive RpAll (K : PySem.W.Frag) (H : Hp) : List V → List D → Prop
  | nil : RpAll K H [] []
  | cons {v : V} {d : D} {vs : List V} {ds : List D} : Rp K H v d → RpAll K H vs ds → RpAll K H (v :: vs) (d :: ds)
inductive RpF (K : PySem.W.Frag) (H : Hp) : List (Str × V) → List (Str × D) → Prop
  | nil : RpF K H [] []
  | cons {f : Str} {v : V} {d : D} {vs : List (Str × V)} {ds : List (Str × D)} : Rp K H v d → RpF K H vs ds → RpF K H ((f, v) :: vs) ((f, d) :: ds)
end

theorem seqT {K : PySem.W.Frag} {H H' : Hp} {a : Addr} {xs : List V} (e : Same H H') (h : SqT K H a xs) : SqT K H' a xs := by
  rcases h with (h | ⟨o, h⟩) | h
  · exact .inl (.inl (e _ _ h))
  · exact .inl (.inr ⟨o, e _ _ h⟩)
  · exact .inr h

mutual
theorem Rp.mono {K : PySem.W.Frag} {H H' : Hp} (e : Same H H') : ∀ {v : V} {d : D}, Rp K H v d → Rp K H' v d
  | _, _, .non => .non
  | _, _, .bl b => .bl b
  | _, _, .int i => .int i
  | _, _, .str x => .str x
  | _, _, .il h => .il (e _ _ h)
  | _, _, .scr h => .scr (e.seq h)
  | _, _, .lst h r => .lst (e _ _ h) (RpAll.mono e r)
  | _, _, .tup h r => .tup (e _ _ h) (RpAll.mono e r)
  | _, _, .obj h r => .obj (e _ _ h) (RpF.mono e r)
  | _, _, .ptr b => .ptr b
theorem RpAll.mono {K : PySem.W.Frag} {H H' : Hp} (e : Same H H') : ∀ {vs : List V} {ds : List D}, RpAll K H vs ds → RpAll K H' vs ds
  | _, _, .nil => .nil
  | _, _, .cons h r => .cons (h.mono e) (r.mono e)
theorem RpF.mono {K : PySem.W.Frag} {H H' : Hp} (e : Same H H') : ∀ {vs : List (Str × V)} {ds : List (Str × D)}, RpF K H vs ds → RpF K H' vs ds
  | _, _, .nil => .nil
  | _, _, .cons h r => .cons (h.mono e) (r.mono e)
end

theorem Rp.scal {K : PySem.W.Frag} {H H' : Hp} {v : V} {d : D} (h : Rp K H v d) (s : scal d = true) : Rp K H' v d := by
  cases h with
  | non => exact .non
  | bl b => exact .bl b
  | int i => exact .int i
  | str x => exact .str x
  | il _ => cases s
  | scr _ => cases s
  | lst _ _ => cases s
  | tup _ _ => cases s
  | obj _ _ => cases s
  | ptr b => exact .ptr b
theorem RpAll.scal {K : PySem.W.Frag} {H H' : Hp} : ∀ {vs : List V} {ds : List D}, RpAll K H vs ds → ds.all Lf.scal = true → RpAll K H' vs ds
  | _, _, .nil, _ => .nil
  | _, _, .cons h r, e => by
    rw [List.all_cons, Bool.and_eq_true] at e
    exact .cons (h.scal e.1) (r.scal e.2)
theorem RpAll.length {K : PySem.W.Frag} {H : Hp} : ∀ {vs : List V} {ds : List D}, RpAll K H vs ds → vs.length = ds.length
  | _, _, .nil => rfl
  | _, _, .cons _ r => by rw [List.length_cons, List.length_cons, r.length]
theorem RpAll.il {K : PySem.W.Frag} {H : Hp} : ∀ (ns : List Int), RpAll K H (ns.map V.int) (ns.map D.int)
  | [] => .nil
  | n :: r => .cons (.int n) (RpAll.il r)
theorem RpAll.of_il {K : PySem.W.Frag} {H : Hp} : ∀ {vs : List V} {ns : List Int}, RpAll K H vs (ns.map D.int) → vs = ns.map V.int
  | _, [], .nil => rfl
  | _, n :: r, .cons (.int _) h => by rw [List.map_cons, RpAll.of_il h]
theorem RpAll.append {K : PySem.W.Frag} {H : Hp} : ∀ {vs ws : List V} {ds es : List D}, RpAll K H vs ds → RpAll K H ws es → RpAll K H (vs ++ ws) (ds ++ es)
  | _, _, _, _, .nil, r => r
  | _, _, _, _, .cons h r, r' => .cons h (r.append r')
theorem RpAll.get {K : PySem.W.Frag} {H : Hp} : ∀ {vs : List V} {ds : List D}, RpAll K H vs ds → ∀ {i : Nat} {d : D}, ds[i]? = some d → ∃ v, vs[i]? = some v ∧ Rp K H v d
  | _, _, .nil, i, d, e => by simp at e
  | _, _, .cons h r, 0, d, e => by
    simp at e
    subst e
    exact ⟨_, rfl, h⟩
  | _, _, .cons h r, i + 1, d, e => by
    obtain ⟨v, h1, h2⟩ := r.get (i := i) (d := d) (by simpa using e)
    exact ⟨v, by simpa using h1, h2⟩
theorem RpAll.getV {K : PySem.W.Frag} {H : Hp} : ∀ {vs : List V} {ds : List D}, RpAll K H vs ds → ∀ {i : Nat} {v : V}, vs[i]? = some v → ∃ d, ds[i]? = some d ∧ Rp K H v d
  | _, _, .nil, i, d, e => by simp at e
  | _, _, .cons h r, 0, d, e => by
    simp at e
    subst e
    exact ⟨_, rfl, h⟩
  | _, _, .cons h r, i + 1, d, e => by
    obtain ⟨v, h1, h2⟩ := r.getV (i := i) (v := d) (by simpa using e)
    exact ⟨v, by simpa using h1, h2⟩
theorem RpAll.take {K : PySem.W.Frag} {H : Hp} : ∀ (n : Nat) {vs : List V} {ds : List D}, RpAll K H vs ds → RpAll K H (vs.take n) (ds.take n)
  | 0, _, _, _ => .nil
  | _ + 1, _, _, .nil => .nil
  | n + 1, _, _, .cons h r => .cons h (r.take n)
theorem RpAll.drop {K : PySem.W.Frag} {H : Hp} : ∀ (n : Nat) {vs : List V} {ds : List D}, RpAll K H vs ds → RpAll K H (vs.drop n) (ds.drop n)
  | 0, _, _, r => r
  | _ + 1, _, _, .nil => .nil
  | n + 1, _, _, .cons _ r => r.drop n
theorem RpAll.reverse {K : PySem.W.Frag} {H : Hp} : ∀ {vs : List V} {ds : List D}, RpAll K H vs ds → RpAll K H vs.reverse ds.reverse
  | _, _, .nil => .nil
  | _, _, .cons h r => by
    rw [List.reverse_cons, List.reverse_cons]
    exact r.reverse.append (.cons h .nil)
theorem RpAll.set {K : PySem.W.Frag} {H : Hp} {v : V} {d : D} (h : Rp K H v d) : ∀ (i : Nat) {vs : List V} {ds : List D}, RpAll K H vs ds → RpAll K H (vs.set i v) (ds.set i d)
  | _, _, _, .nil => .nil
  | 0, _, _, .cons _ r => .cons h r
  | i + 1, _, _, .cons q r => .cons q (r.set h i)
theorem RpAll.dropLast {K : PySem.W.Frag} {H : Hp} {vs : List V} {ds : List D} (h : RpAll K H vs ds) : RpAll K H vs.dropLast ds.dropLast := by
  rw [List.dropLast_eq_take, List.dropLast_eq_take, h.length]
  exact h.take _
theorem RpF.look {K : PySem.W.Frag} {H : Hp} : ∀ {vs : List (Str × V)} {ds : List (Str × D)}, RpF K H vs ds → ∀ {f : Str} {d : D}, ds.lookup f = some d → ∃ v, vs.lookup f = some v ∧ Rp K H v d
  | _, _, .nil, f, d, e => by simp at e
  | _, _, .cons (f := g) h r, f, d, e => by
    by_cases q : f = g
    · subst q
      simp at e
      subst e
      exact ⟨_, by simp, h⟩
    · have q' : (f == g) = false := by simpa using q
      simp only [List.lookup, q'] at e ⊢
      exact r.look e
theorem RpF.no {K : PySem.W.Frag} {H : Hp} : ∀ {vs : List (Str × V)} {ds : List (Str × D)}, RpF K H vs ds → ∀ {f : Str}, ds.lookup f = none → vs.lookup f = none
  | _, _, .nil, f, e => by simp
  | _, _, .cons (f := g) h r, f, e => by
    by_cases q : f = g
    · subst q
      simp at e
    · have q' : (f == g) = false := by simpa using q
      simp only [List.lookup, q'] at e ⊢
      exact r.no e


/-! a value with the addresses of its own nodes: lists and objects that nothing else speaks of, and what hangs on them -/
inductive G where
  | d (d : D)
  | li (b : Addr) (ns : List Int)
  | ls (b : Addr) (gs : List G)
  | ob (b C : Addr) (fs : List Str) (gs : List G)
mutual
def adds : G → List Addr
  | .d _ => []
  | .li b _ => [b]
  | .ls b gs => b :: addss gs
  | .ob b _ _ gs => b :: addss gs
def addss : List G → List Addr
  | [] => []
  | g :: r => adds g ++ addss r
end
mutual
def erase : G → D
  | .d d => d
  | .li _ ns => .il ns
  | .ls _ gs => .lst (erases gs)
  | .ob _ C fs gs => .obj C (fs.zip (erases gs))
def erases : List G → List D
  | [] => []
  | g :: r => erase g :: erases r
end
/-- what hangs on a tree: constants, tuples -/
def leafD : D → Bool
  | .tup _ => true
  | d => scal d
mutual
def okG : G → Bool
  | .d d => leafD d
  | .li _ _ => true
  | .ls _ gs => okGs gs
  | .ob _ _ fs gs => fs.length == gs.length && okGs gs
def okGs : List G → Bool
  | [] => true
  | g :: r => okG g && okGs r
end
structure Nd (g : G) : Prop where
  nd : (adds g).Nodup
  ok : okG g = true
mutual
inductive AtG (K : PySem.W.Frag) (Hs H : Hp) : V → G → Prop
  | d {v : V} {d : D} : Rp K Hs v d → AtG K Hs H v (.d d)
  | li {b : Addr} {ns : List Int} : H b = some (.lst (ns.map V.int)) → AtG K Hs H (.ref b) (.li b ns)
  | ls {b : Addr} {gs : List G} {vs : List V} : H b = some (.lst vs) → AtGs K Hs H vs gs → AtG K Hs H (.ref b) (.ls b gs)
  | ob {b C dx : Addr} {fs : List Str} {gs : List G} {vs : List V} : H b = some (.ins C dx (fs.zip vs)) → fs.length = vs.length → AtGs K Hs H vs gs → AtG K Hs H (.ref b) (.ob b C fs gs)
inductive AtGs (K : PySem.W.Frag) (Hs H : Hp) : List V → List G → Prop
  | nil : AtGs K Hs H [] []
  | cons {v : V} {g : G} {vs : List V} {gs : List G} : AtG K Hs H v g → AtGs K Hs H vs gs → AtGs K Hs H (v :: vs) (g :: gs)
end
mutual
theorem AtG.mono {K : PySem.W.Frag} {Hs H Hs' H' : Hp} (es : Same Hs Hs') (e : Same H H') : ∀ {v : V} {g : G}, AtG K Hs H v g → AtG K Hs' H' v g
  | _, _, .d r => .d (r.mono es)
  | _, _, .li h => .li (e _ _ h)
  | _, _, .ls h r => .ls (e _ _ h) (AtGs.mono es e r)
  | _, _, .ob h l r => .ob (e _ _ h) l (AtGs.mono es e r)
theorem AtGs.mono {K : PySem.W.Frag} {Hs H Hs' H' : Hp} (es : Same Hs Hs') (e : Same H H') : ∀ {vs : List V} {gs : List G}, AtGs K Hs H vs gs → AtGs K Hs' H' vs gs
  | _, _, .nil => .nil
  | _, _, .cons h r => .cons (AtG.mono es e h) (AtGs.mono es e r)
end
mutual
/-- a node elsewhere changes -/
theorem AtG.off {K : PySem.W.Frag} {Hs H : Hp} {a : Addr} {o : HO} : ∀ {v : V} {g : G}, AtG K Hs H v g → a ∉ adds g → AtG K Hs (upd H a o) v g
  | _, _, .d r, _ => .d r
  | _, _, .li h, n => .li (by rw [upd_ne (fun e => n (by rw [adds, e]; exact List.mem_cons_self ..))]; exact h)
  | _, _, .ls h r, n => .ls (by rw [upd_ne (fun e => n (by rw [adds, e]; exact List.mem_cons_self ..))]; exact h) (AtGs.off r fun z => n (by rw [adds]; exact List.mem_cons_of_mem _ z))
  | _, _, .ob h l r, n => .ob (by rw [upd_ne (fun e => n (by rw [adds, e]; exact List.mem_cons_self ..))]; exact h) l (AtGs.off r fun z => n (by rw [adds]; exact List.mem_cons_of_mem _ z))
theorem AtGs.off {K : PySem.W.Frag} {Hs H : Hp} {a : Addr} {o : HO} : ∀ {vs : List V} {gs : List G}, AtGs K Hs H vs gs → a ∉ addss gs → AtGs K Hs (upd H a o) vs gs
  | _, _, .nil, _ => .nil
  | _, _, .cons h r, n => .cons (AtG.off h fun z => n (by rw [addss]; exact List.mem_append_left _ z)) (AtGs.off r fun z => n (by rw [addss]; exact List.mem_append_right _ z))
end
mutual
theorem AtG.dom {K : PySem.W.Frag} {Hs H : Hp} : ∀ {v : V} {g : G}, AtG K Hs H v g → ∀ b, b ∈ adds g → H b ≠ none
  | _, _, .d r, b, m => by rw [adds] at m; cases m
  | _, _, .li h, b, m => by
    rw [adds, List.mem_singleton] at m
    subst m
    rw [h]; intro z; cases z
  | _, _, .ls h r, b, m => by
    rw [adds] at m
    rcases List.mem_cons.mp m with rfl | m
    · rw [h]; intro z; cases z
    · exact AtGs.dom r b m
  | _, _, .ob h l r, b, m => by
    rw [adds] at m
    rcases List.mem_cons.mp m with rfl | m
    · rw [h]; intro z; cases z
    · exact AtGs.dom r b m
theorem AtGs.dom {K : PySem.W.Frag} {Hs H : Hp} : ∀ {vs : List V} {gs : List G}, AtGs K Hs H vs gs → ∀ b, b ∈ addss gs → H b ≠ none
  | _, _, .nil, b, m => by rw [addss] at m; cases m
  | _, _, .cons h r, b, m => by
    rw [addss] at m
    rcases List.mem_append.mp m with m | m
    · exact AtG.dom h b m
    · exact AtGs.dom r b m
end
theorem AtGs.length {K : PySem.W.Frag} {Hs H : Hp} : ∀ {vs : List V} {gs : List G}, AtGs K Hs H vs gs → vs.length = gs.length
  | _, _, .nil => rfl
  | _, _, .cons _ r => by rw [List.length_cons, List.length_cons, r.length]
theorem RpF.zip {K : PySem.W.Frag} {H : Hp} : ∀ (fs : List Str) {vs : List V} {ds : List D}, RpAll K H vs ds → RpF K H (fs.zip vs) (fs.zip ds)
  | [], _, _, _ => .nil
  | _ :: _, _, _, .nil => .nil
  | _ :: fs, _, _, .cons h r => .cons h (RpF.zip fs r)
mutual
/-- .. as a value, where H2 holds the nodes and the rest -/
theorem AtG.rp {K : PySem.W.Frag} {Hs H H2 : Hp} (es : Same Hs H2) : ∀ {v : V} {g : G}, AtG K Hs H v g → (∀ b, b ∈ adds g → H2 b = H b) → Rp K H2 v (erase g)
  | _, _, .d r, _ => by rw [erase]; exact r.mono es
  | _, _, .li h, q => by rw [erase]; exact .il (by rw [q _ (by rw [adds]; exact List.mem_cons_self ..)]; exact h)
  | _, _, .ls h r, q => by rw [erase]; exact .lst (by rw [q _ (by rw [adds]; exact List.mem_cons_self ..)]; exact h) (AtGs.rp es r fun b m => q b (by rw [adds]; exact List.mem_cons_of_mem _ m))
  | _, _, .ob h l r, q => by rw [erase]; exact .obj (by rw [q _ (by rw [adds]; exact List.mem_cons_self ..)]; exact h) (RpF.zip _ (AtGs.rp es r fun b m => q b (by rw [adds]; exact List.mem_cons_of_mem _ m)))
theorem AtGs.rp {K : PySem.W.Frag} {Hs H H2 : Hp} (es : Same Hs H2) : ∀ {vs : List V} {gs : List G}, AtGs K Hs H vs gs → (∀ b, b ∈ addss gs → H2 b = H b) → RpAll K H2 vs (erases gs)
  | _, _, .nil, _ => by rw [erases]; exact .nil
  | _, _, .cons h r, q => by rw [erases]; exact .cons (AtG.rp es h fun b m => q b (by rw [addss]; exact List.mem_append_left _ m)) (AtGs.rp es r fun b m => q b (by rw [addss]; exact List.mem_append_right _ m))
end

/-- where a value is held: in the whole heap; in what stays; in what is new and stays -/
inductive Lv where
  | full | imm | frs
  deriving DecidableEq
def Lv.le : Lv → Lv → Bool
  | .frs, _ => true
  | .imm, .frs => false
  | .imm, _ => true
  | .full, .full => true
  | .full, _ => false
/-- what stays (i), of it what is new (n), the whole (h) -/
structure W3 where
  i : Hp
  n : Hp
  h : Hp
def W3.at (T : W3) : Lv → Hp
  | .full => T.h
  | .imm => T.i
  | .frs => T.n
structure Ok (T : W3) : Prop where
  ni : Same T.n T.i
  ih : Same T.i T.h
theorem Ok.le {T : W3} (o : Ok T) : ∀ {a b : Lv}, Lv.le a b = true → Same (T.at a) (T.at b)
  | .frs, .frs, _ => Same.refl _
  | .frs, .imm, _ => o.ni
  | .frs, .full, _ => o.ni.trans o.ih
  | .imm, .imm, _ => Same.refl _
  | .imm, .full, _ => o.ih
  | .full, .full, _ => Same.refl _
  | .imm, .frs, h => nomatch h
  | .full, .imm, h => nomatch h
  | .full, .frs, h => nomatch h
theorem Lv.le_full : ∀ (a : Lv), Lv.le a .full = true
  | .frs => rfl
  | .imm => rfl
  | .full => rfl
theorem Ok.full {T : W3} (o : Ok T) {a : Lv} : Same (T.at a) T.h := o.le (b := .full) (Lv.le_full a)

/-- new things alone -/
structure Grow (T T' : W3) : Prop where
  ok : Ok T'
  ex : Same T.h T'.h
  xi : Same T.i T'.i
  xn : Same T.n T'.n
  fi : ∀ a, T.i a = none → T.h a ≠ none → T'.i a = none
  fn : ∀ a, T.n a = none → T.h a ≠ none → T'.n a = none
theorem Grow.refl {T : W3} (o : Ok T) : Grow T T := ⟨o, Same.refl _, Same.refl _, Same.refl _, fun _ h _ => h, fun _ h _ => h⟩
theorem Same.some {H H' : Hp} (e : Same H H') {a : Addr} (h : H a ≠ none) : H' a ≠ none := by
  cases q : H a with
  | none => exact absurd q h
  | some o => rw [e a o q]; intro z; cases z
theorem Grow.trans {T T1 T2 : W3} (a : Grow T T1) (b : Grow T1 T2) : Grow T T2 :=
  ⟨b.ok, a.ex.trans b.ex, a.xi.trans b.xi, a.xn.trans b.xn, fun c h q => b.fi c (a.fi c h q) (Same.some a.ex q), fun c h q => b.fn c (a.fn c h q) (Same.some a.ex q)⟩
theorem Grow.at {T T' : W3} (g : Grow T T') : ∀ (l : Lv), Same (T.at l) (T'.at l)
  | .full => g.ex
  | .imm => g.xi
  | .frs => g.xn
/-- .. own things may have changed, none is kept -/
structure Gs (T T' : W3) : Prop where
  ok : Ok T'
  dom : ∀ a, T.h a ≠ none → T'.h a ≠ none
  xi : Same T.i T'.i
  xn : Same T.n T'.n
  fi : ∀ a, T.i a = none → T.h a ≠ none → T'.i a = none
  fn : ∀ a, T.n a = none → T.h a ≠ none → T'.n a = none
theorem Grow.s {T T' : W3} (g : Grow T T') : Gs T T' := ⟨g.ok, fun _ h => Same.some g.ex h, g.xi, g.xn, g.fi, g.fn⟩
theorem Gs.refl {T : W3} (o : Ok T) : Gs T T := (Grow.refl o).s
theorem Gs.trans {T T1 T2 : W3} (a : Gs T T1) (b : Gs T1 T2) : Gs T T2 :=
  ⟨b.ok, fun c h => b.dom c (a.dom c h), a.xi.trans b.xi, a.xn.trans b.xn, fun c h q => b.fi c (a.fi c h q) (a.dom c q), fun c h q => b.fn c (a.fn c h q) (a.dom c q)⟩
theorem Gs.at {T T' : W3} (g : Gs T T') : ∀ {l : Lv}, l ≠ .full → Same (T.at l) (T'.at l)
  | .full, h => absurd rfl h
  | .imm, _ => g.xi
  | .frs, _ => g.xn

/-- .. own things may have changed, or are kept from now on -/
structure Gw (T T' : W3) : Prop where
  ok : Ok T'
  dom : ∀ a, T.h a ≠ none → T'.h a ≠ none
  xi : Same T.i T'.i
  xn : Same T.n T'.n
  fn : ∀ a, T.n a = none → T.i a ≠ none → T.h a ≠ none → T'.n a = none
theorem Grow.w {T T' : W3} (g : Grow T T') : Gw T T' := ⟨g.ok, fun _ h => Same.some g.ex h, g.xi, g.xn, fun a h1 _ h2 => g.fn a h1 h2⟩
theorem Gw.refl {T : W3} (o : Ok T) : Gw T T := (Grow.refl o).w
theorem Gw.trans {T T1 T2 : W3} (a : Gw T T1) (b : Gw T1 T2) : Gw T T2 :=
  ⟨b.ok, fun c h => b.dom c (a.dom c h), a.xi.trans b.xi, a.xn.trans b.xn, fun c h q r => b.fn c (a.fn c h q r) (Same.some a.xi q) (a.dom c r)⟩
theorem Gw.at {T T' : W3} (g : Gw T T') : ∀ {l : Lv}, l ≠ .full → Same (T.at l) (T'.at l)
  | .full, h => absurd rfl h
  | .imm, _ => g.xi
  | .frs, _ => g.xn

/-- a new object that nothing else speaks of (a new list, say) -/
def W3.put (T : W3) (a : Addr) (o : HO) : W3 := ⟨T.i, T.n, upd T.h a o⟩
theorem same_new {H : Hp} {p : Addr} {o : HO} (h : H p = none) : Same H (upd H p o) := fun b x e => by
  rw [upd_ne (ne_of_none e h)]
  exact e
theorem same_into {H H' : Hp} {p : Addr} {o : HO} (e : Same H H') (h : H p = none) : Same H (upd H' p o) := fun b x q => by
  rw [upd_ne (ne_of_none q h)]
  exact e b x q
theorem Ok.i_none {T : W3} (o : Ok T) {a : Addr} (h : T.h a = none) : T.i a = none := Same.free o.ih h
theorem Ok.n_none {T : W3} (o : Ok T) {a : Addr} (h : T.h a = none) : T.n a = none := Same.free o.ni (o.i_none h)
theorem Ok.n_none' {T : W3} (o : Ok T) {a : Addr} (h : T.i a = none) : T.n a = none := Same.free o.ni h
theorem Ok.put {T : W3} (o : Ok T) {a : Addr} {x : HO} (h : T.i a = none) : Ok (T.put a x) := ⟨o.ni, same_into o.ih h⟩
theorem Grow.put {T : W3} (o : Ok T) {a : Addr} {x : HO} (h : T.h a = none) : Grow T (T.put a x) :=
  ⟨o.put (o.i_none h), same_new h, Same.refl _, Same.refl _, fun _ q _ => q, fun _ q _ => q⟩
/-- an own object changes -/
theorem Gs.put {T : W3} (o : Ok T) {a : Addr} {x : HO} (h : T.i a = none) : Gs T (T.put a x) :=
  ⟨o.put h, fun b q => by
    show upd T.h a x b ≠ none
    by_cases e : b = a
    · subst e; rw [upd_same]; intro z; cases z
    · rw [upd_ne e]; exact q, Same.refl _, Same.refl _, fun _ q _ => q, fun _ q _ => q⟩
/-- an own object changes -/
theorem Gw.put {T : W3} (o : Ok T) {a : Addr} {x : HO} (h : T.i a = none) : Gw T (T.put a x) :=
  ⟨o.put h, fun b q => by
    show upd T.h a x b ≠ none
    by_cases e : b = a
    · subst e; rw [upd_same]; intro z; cases z
    · rw [upd_ne e]; exact q, Same.refl _, Same.refl _, fun _ q _ _ => q⟩
/-- the object at a is from now on kept as it is -/
def W3.fix (T : W3) (a : Addr) (o : HO) : W3 := ⟨upd T.i a o, upd T.n a o, T.h⟩
def W3.fixI (T : W3) (a : Addr) (o : HO) : W3 := ⟨upd T.i a o, T.n, T.h⟩
theorem same_both {H H' : Hp} {p : Addr} {o : HO} (e : Same H H') : Same (upd H p o) (upd H' p o) := fun b x q => by
  by_cases z : b = p
  · subst z; rw [upd_same] at q ⊢; exact q
  · rw [upd_ne z] at q ⊢; exact e b x q
theorem same_up {H H' : Hp} {p : Addr} {o : HO} (e : Same H H') (h : H' p = some o) : Same (upd H p o) H' := fun b x q => by
  by_cases z : b = p
  · subst z; rw [upd_same] at q; rw [h]; exact q
  · rw [upd_ne z] at q; exact e b x q
theorem Grow.fix {T0 T : W3} (g : Grow T0 T) {a : Addr} {o : HO} (h0 : T0.h a = none) (hi : T.i a = none) (h : T.h a = some o) : Grow T0 (T.fix a o) :=
  ⟨⟨same_both g.ok.ni, same_up g.ok.ih h⟩, g.ex, same_into g.xi (Same.free g.xi hi), same_into g.xn (Same.free g.xn (g.ok.n_none' hi)),
    fun b q r => by
      show upd T.i a o b = none
      rw [upd_ne (fun e => r (by rw [e]; exact h0))]
      exact g.fi b q r,
    fun b q r => by
      show upd T.n a o b = none
      rw [upd_ne (fun e => r (by rw [e]; exact h0))]
      exact g.fn b q r⟩
theorem Grow.fixI {T0 T : W3} (g : Grow T0 T) {a : Addr} {o : HO} (h0 : T0.h a = none) (hi : T.i a = none) (h : T.h a = some o) : Grow T0 (T.fixI a o) :=
  ⟨⟨same_into g.ok.ni (g.ok.n_none' hi), same_up g.ok.ih h⟩, g.ex, same_into g.xi (Same.free g.xi hi), g.xn,
    fun b q r => by
      show upd T.i a o b = none
      rw [upd_ne (fun e => r (by rw [e]; exact h0))]
      exact g.fi b q r,
    g.fn⟩

/-- what a name stands for: a value that stays; a list of il, a list, a dict of one's own -/
inductive E where
  | v (l : Lv) (d : D)
  | ownI (ns : List Int)
  | own (l : Lv) (ds : List D)
  | dI (l : Lv) (kvs : List (Int × D))
  | dT (l : Lv) (kvs : List (List Int × D))
  | tr (l : Lv) (g : G)
  | dF (a : Addr) (o : Obj) (ws : List (List Key × V)) (l : Lv) (kvs : List (List Int × D))
abbrev PEnv := List (Option E)
def E.isOwn : E → Bool
  | .v _ _ => false
  | .tr _ _ => false
  | _ => true
def E.inn : E → List Addr
  | .tr _ g => adds g
  | _ => []
def keyI (k : Int) : Key := .inl k
def keyT (k : List Int) : List Key := k.map .inl
inductive RpK {κ κ' : Type} (f : κ → κ') (K : PySem.W.Frag) (H : Hp) : List (κ' × V) → List (κ × D) → Prop
  | nil : RpK f K H [] []
  | cons {k : κ} {v : V} {d : D} {vs : List (κ' × V)} {ds : List (κ × D)} : Rp K H v d → RpK f K H vs ds → RpK f K H ((f k, v) :: vs) ((k, d) :: ds)
theorem RpK.mono {κ κ' : Type} {f : κ → κ'} {K : PySem.W.Frag} {H H' : Hp} (e : Same H H') : ∀ {vs : List (κ' × V)} {ds : List (κ × D)}, RpK f K H vs ds → RpK f K H' vs ds
  | _, _, .nil => .nil
  | _, _, .cons h r => .cons (h.mono e) (r.mono e)
theorem RpK.length {κ κ' : Type} {f : κ → κ'} {K : PySem.W.Frag} {H : Hp} : ∀ {vs : List (κ' × V)} {ds : List (κ × D)}, RpK f K H vs ds → vs.length = ds.length
  | _, _, .nil => rfl
  | _, _, .cons _ r => by rw [List.length_cons, List.length_cons, r.length]

def AtE (K : PySem.W.Frag) (T : W3) (v : V) : E → Prop
  | .v l d => l ≠ .full ∧ Rp K (T.at l) v d
  | .ownI ns => ∃ a, v = .ref a ∧ T.h a = some (.lst (ns.map V.int)) ∧ T.i a = none
  | .own l ds => l ≠ .full ∧ ∃ a vs, v = .ref a ∧ T.h a = some (.lst vs) ∧ T.i a = none ∧ RpAll K (T.at l) vs ds
  | .dI l kvs => l ≠ .full ∧ ∃ a ws, v = .ref a ∧ T.h a = some (.dK ws) ∧ T.i a = none ∧ RpK keyI K (T.at l) ws kvs
  | .dT l kvs => l ≠ .full ∧ ∃ a ws, v = .ref a ∧ T.h a = some (.dT ws) ∧ T.i a = none ∧ RpK keyT K (T.at l) ws kvs
  | .tr l g => l ≠ .full ∧ AtG K (T.at l) T.h v g ∧ (∀ b, b ∈ adds g → T.i b = none) ∧ (adds g).Nodup
  | .dF a o ws l kvs => l ≠ .full ∧ v = .ref a ∧ T.h a = some (.frz o (.dT ws)) ∧ T.i a = none ∧ RpK keyT K (T.at l) ws kvs
/-- an own thing's address -/
theorem AtE.addr {K : PySem.W.Frag} {T : W3} {v : V} {e : E} (h : AtE K T v e) (o : e.isOwn = true) : ∃ a, v = .ref a ∧ T.i a = none ∧ T.h a ≠ none := by
  cases e with
  | v _ _ => cases o
  | ownI ns => obtain ⟨a, rfl, h1, h2⟩ := h; exact ⟨a, rfl, h2, by rw [h1]; intro z; cases z⟩
  | own l ds => obtain ⟨_, a, vs, rfl, h1, h2, _⟩ := h; exact ⟨a, rfl, h2, by rw [h1]; intro z; cases z⟩
  | dI l ds => obtain ⟨_, a, vs, rfl, h1, h2, _⟩ := h; exact ⟨a, rfl, h2, by rw [h1]; intro z; cases z⟩
  | dT l ds => obtain ⟨_, a, vs, rfl, h1, h2, _⟩ := h; exact ⟨a, rfl, h2, by rw [h1]; intro z; cases z⟩
  | tr _ _ => cases o
  | dF b _ _ _ _ => obtain ⟨_, rfl, h1, h2, _⟩ := h; exact ⟨b, rfl, h2, by rw [h1]; intro z; cases z⟩
theorem AtE.inn {K : PySem.W.Frag} {T : W3} {v : V} {e : E} (h : AtE K T v e) {b : Addr} (m : b ∈ e.inn) : T.i b = none ∧ T.h b ≠ none := by
  cases e with
  | tr l g => exact ⟨h.2.2.1 b m, h.2.1.dom b m⟩
  | v _ _ => cases m
  | ownI _ => cases m
  | own _ _ => cases m
  | dI _ _ => cases m
  | dT _ _ => cases m
  | dF _ _ _ _ _ => cases m
theorem AtE.grow {K : PySem.W.Frag} {T T' : W3} {v : V} {e : E} (g : Grow T T') (h : AtE K T v e) : AtE K T' v e := by
  cases e with
  | v l d => exact ⟨h.1, h.2.mono (g.at l)⟩
  | ownI ns => obtain ⟨a, rfl, h1, h2⟩ := h; exact ⟨a, rfl, g.ex _ _ h1, g.fi a h2 (by rw [h1]; intro z; cases z)⟩
  | own l ds => obtain ⟨z, a, vs, rfl, h1, h2, r⟩ := h; exact ⟨z, a, vs, rfl, g.ex _ _ h1, g.fi a h2 (by rw [h1]; intro z; cases z), r.mono (g.at l)⟩
  | dI l ds => obtain ⟨z, a, vs, rfl, h1, h2, r⟩ := h; exact ⟨z, a, vs, rfl, g.ex _ _ h1, g.fi a h2 (by rw [h1]; intro z; cases z), r.mono (g.at l)⟩
  | dT l ds => obtain ⟨z, a, vs, rfl, h1, h2, r⟩ := h; exact ⟨z, a, vs, rfl, g.ex _ _ h1, g.fi a h2 (by rw [h1]; intro z; cases z), r.mono (g.at l)⟩
  | tr l t => exact ⟨h.1, h.2.1.mono (g.at l) g.ex, fun b m => g.fi b (h.2.2.1 b m) (h.2.1.dom b m), h.2.2.2⟩
  | dF b o ws l kvs => obtain ⟨z, rfl, h1, h2, r⟩ := h; exact ⟨z, rfl, g.ex _ _ h1, g.fi b h2 (by rw [h1]; intro z; cases z), r.mono (g.at l)⟩
/-- another own object changes -/
theorem AtE.put {K : PySem.W.Frag} {T : W3} {v : V} {e : E} {a : Addr} {o : HO} (h : AtE K T v e) (n : e.isOwn = true → v ≠ .ref a) (n2 : a ∉ e.inn) : AtE K (T.put a o) v e := by
  cases e with
  | v l d =>
    cases l with
    | full => exact absurd rfl h.1
    | imm => exact h
    | frs => exact h
  | ownI ns =>
    obtain ⟨b, rfl, h1, h2⟩ := h
    exact ⟨b, rfl, by show upd T.h a o b = _; rw [upd_ne (fun z => n rfl (by rw [z]))]; exact h1, h2⟩
  | own l ds =>
    obtain ⟨z, b, vs, rfl, h1, h2, r⟩ := h
    refine ⟨z, b, vs, rfl, by show upd T.h a o b = _; rw [upd_ne (fun z => n rfl (by rw [z]))]; exact h1, h2, ?_⟩
    cases l with
    | full => exact absurd rfl z
    | imm => exact r
    | frs => exact r
  | dI l ds =>
    obtain ⟨z, b, vs, rfl, h1, h2, r⟩ := h
    refine ⟨z, b, vs, rfl, by show upd T.h a o b = _; rw [upd_ne (fun z => n rfl (by rw [z]))]; exact h1, h2, ?_⟩
    cases l with
    | full => exact absurd rfl z
    | imm => exact r
    | frs => exact r
  | dT l ds =>
    obtain ⟨z, b, vs, rfl, h1, h2, r⟩ := h
    refine ⟨z, b, vs, rfl, by show upd T.h a o b = _; rw [upd_ne (fun z => n rfl (by rw [z]))]; exact h1, h2, ?_⟩
    cases l with
    | full => exact absurd rfl z
    | imm => exact r
    | frs => exact r
  | tr l t =>
    refine ⟨h.1, ?_, h.2.2.1, h.2.2.2⟩
    have q := h.2.1.off (o := o) n2
    cases l with
    | full => exact absurd rfl h.1
    | imm => exact q
    | frs => exact q
  | dF b o' ws l kvs =>
    obtain ⟨z, rfl, h1, h2, r⟩ := h
    refine ⟨z, rfl, by show upd T.h a o b = _; rw [upd_ne (fun z => n rfl (by rw [z]))]; exact h1, h2, ?_⟩
    cases l with
    | full => exact absurd rfl z
    | imm => exact r
    | frs => exact r

/-- no name owns a -/
structure NotOwn (σ : L2.St) (ρ : PEnv) (a : Addr) : Prop where
  own : ∀ (j : Nat) (e' : E), ρ[j]? = some (some e') → e'.isOwn = true → σ[j]? ≠ some (some (V.ref a))
  inn : ∀ (j : Nat) (e' : E), ρ[j]? = some (some e') → a ∉ e'.inn

structure Fr (K : PySem.W.Frag) (T : W3) (σ : L2.St) (ρ : PEnv) : Prop where
  ok : Ok T
  len : σ.length = ρ.length
  val : ∀ (i : Nat) (e : E), ρ[i]? = some (some e) → ∃ v, σ[i]? = some (some v) ∧ AtE K T v e
  sep : ∀ (i j : Nat) (e e' : E) (a : Addr), ρ[i]? = some (some e) → ρ[j]? = some (some e') → e.isOwn = true → e'.isOwn = true → σ[i]? = some (some (V.ref a)) → σ[j]? = some (some (V.ref a)) → i = j
  sepT : ∀ (i j : Nat) (e e' : E) (b : Addr), ρ[i]? = some (some e) → ρ[j]? = some (some e') → b ∈ e.inn → b ∈ e'.inn → i = j
  sepO : ∀ (i j : Nat) (e e' : E) (b : Addr), ρ[i]? = some (some e) → ρ[j]? = some (some e') → b ∈ e.inn → e'.isOwn = true → σ[j]? ≠ some (some (V.ref b))
theorem Fr.grow {K : PySem.W.Frag} {T T' : W3} {σ : L2.St} {ρ : PEnv} (F : Fr K T σ ρ) (g : Grow T T') : Fr K T' σ ρ :=
  ⟨g.ok, F.len, fun i e h => let ⟨v, h1, h2⟩ := F.val i e h; ⟨v, h1, h2.grow g⟩, F.sep, F.sepT, F.sepO⟩
theorem getset {α : Type} {l : List α} {i j : Nat} {x y : α} (h : (l.set i x)[j]? = some y) : (i = j ∧ x = y) ∨ (i ≠ j ∧ l[j]? = some y) := by
  by_cases e : i = j
  · subst e
    by_cases hl : i < l.length
    · rw [List.getElem?_set_self hl] at h
      exact .inl ⟨rfl, Option.some.inj h⟩
    · rw [List.getElem?_eq_none (by rw [List.length_set]; omega)] at h
      cases h
  · rw [List.getElem?_set_ne e] at h
    exact .inr ⟨e, h⟩
theorem lt_of_set {α : Type} {l : List α} {i j : Nat} {x y : α} (h : (l.set i x)[j]? = some y) : j < l.length := by
  have := (List.getElem?_eq_some_iff.mp h).1
  rw [List.length_set] at this
  exact this
/-- a name is bound anew: the value, what it owns -/
theorem Fr.bind {K : PySem.W.Frag} {T : W3} {σ : L2.St} {ρ : PEnv} (F : Fr K T σ ρ) {i : Nat} {v : V} {e : E} (r : AtE K T v e) (no : e.isOwn = true → ∀ b, v = .ref b → NotOwn σ ρ b) (ni : ∀ b, b ∈ e.inn → NotOwn σ ρ b) :
    Fr K T (σ.set i (some v)) (ρ.set i (some e)) := by
  have hne : ∀ b, b ∈ e.inn → e.isOwn = false := fun b m => by
    cases e with
    | tr _ _ => rfl
    | v _ _ => rfl
    | ownI _ => cases m
    | own _ _ => cases m
    | dI _ _ => cases m
    | dT _ _ => cases m
    | dF _ _ _ _ _ => cases m
  refine ⟨F.ok, by rw [List.length_set, List.length_set, F.len], fun j e' h => ?_, fun j k e1 e2 b h1 h2 o1 o2 s1 s2 => ?_, fun j k e1 e2 b h1 h2 m1 m2 => ?_, fun j k e1 e2 b h1 h2 m1 o2 s2 => ?_⟩
  · have hj := lt_of_set h
    rcases getset h with ⟨rfl, q⟩ | ⟨n, q⟩
    · cases q
      exact ⟨v, by rw [List.getElem?_set_self (by rw [F.len]; exact hj)], r⟩
    · obtain ⟨w, w1, w2⟩ := F.val j e' q
      exact ⟨w, by rw [List.getElem?_set_ne n]; exact w1, w2⟩
  · rcases getset h1 with ⟨rfl, q⟩ | ⟨n1, q1⟩
    · rcases getset h2 with ⟨rfl, q'⟩ | ⟨n2, q2⟩
      · rfl
      · rcases getset s1 with ⟨_, z⟩ | ⟨z, _⟩
        · cases q; cases z
          rw [List.getElem?_set_ne n2] at s2
          exact absurd s2 ((no o1 b rfl).own k e2 q2 o2)
        · exact absurd rfl z
    · rcases getset h2 with ⟨rfl, q'⟩ | ⟨n2, q2⟩
      · rcases getset s2 with ⟨_, z⟩ | ⟨z, _⟩
        · cases q'; cases z
          rw [List.getElem?_set_ne n1] at s1
          exact absurd s1 ((no o2 b rfl).own j e1 q1 o1)
        · exact absurd rfl z
      · rw [List.getElem?_set_ne n1] at s1
        rw [List.getElem?_set_ne n2] at s2
        exact F.sep j k e1 e2 b q1 q2 o1 o2 s1 s2
  · rcases getset h1 with ⟨rfl, q⟩ | ⟨n1, q1⟩
    · cases q
      rcases getset h2 with ⟨rfl, q'⟩ | ⟨n2, q2⟩
      · rfl
      · exact absurd m2 ((ni b m1).inn k e2 q2)
    · rcases getset h2 with ⟨rfl, q'⟩ | ⟨n2, q2⟩
      · cases q'
        exact absurd m1 ((ni b m2).inn j e1 q1)
      · exact F.sepT j k e1 e2 b q1 q2 m1 m2
  · rcases getset h1 with ⟨rfl, q⟩ | ⟨n1, q1⟩
    · cases q
      rcases getset h2 with ⟨rfl, q'⟩ | ⟨n2, q2⟩
      · cases q'
        rw [hne b m1] at o2
        cases o2
      · rw [List.getElem?_set_ne n2] at s2
        exact (ni b m1).own k e2 q2 o2 s2
    · rcases getset h2 with ⟨rfl, q'⟩ | ⟨n2, q2⟩
      · cases q'
        rcases getset s2 with ⟨_, z⟩ | ⟨z, _⟩
        · cases z
          exact (no o2 b rfl).inn j e1 q1 m1
        · exact absurd rfl z
      · rw [List.getElem?_set_ne n2] at s2
        exact F.sepO j k e1 e2 b q1 q2 m1 o2 s2
/-- a name is bound to a value that stays -/
theorem Fr.set {K : PySem.W.Frag} {T : W3} {σ : L2.St} {ρ : PEnv} (F : Fr K T σ ρ) {i : Nat} {v : V} {l : Lv} {d : D} (hl : l ≠ .full) (r : Rp K (T.at l) v d) : Fr K T (σ.set i (some v)) (ρ.set i (some (.v l d))) :=
  F.bind (e := .v l d) ⟨hl, r⟩ (fun o => nomatch o) (fun b m => nomatch m)
/-- a name is bound to a thing of its own -/
theorem Fr.setOwn {K : PySem.W.Frag} {T : W3} {σ : L2.St} {ρ : PEnv} (F : Fr K T σ ρ) {i : Nat} {a : Addr} {e : E} (r : AtE K T (.ref a) e) (n : NotOwn σ ρ a) (ho : e.inn = [] := by rfl) : Fr K T (σ.set i (some (.ref a))) (ρ.set i (some e)) :=
  F.bind r (fun _ b h => by cases h; exact n) (fun b m => by rw [ho] at m; cases m)
theorem Fr.fresh {K : PySem.W.Frag} {T : W3} {σ : L2.St} {ρ : PEnv} (F : Fr K T σ ρ) {a : Addr} (h : T.h a = none) : NotOwn σ ρ a :=
  ⟨fun j e' h1 o s => by
    obtain ⟨v, h2, h3⟩ := F.val j e' h1
    obtain ⟨b, rfl, _, h4⟩ := h3.addr o
    rw [h2] at s
    cases s
    exact h4 h, fun j e' h1 m => by
    obtain ⟨v, h2, h3⟩ := F.val j e' h1
    exact (h3.inn m).2 h⟩
/-- a name is bound to a tree of its own -/
theorem Fr.setTr {K : PySem.W.Frag} {T : W3} {σ : L2.St} {ρ : PEnv} (F : Fr K T σ ρ) {i : Nat} {v : V} {l : Lv} {g : G} (r : AtE K T v (.tr l g)) (n : ∀ b, b ∈ adds g → NotOwn σ ρ b) : Fr K T (σ.set i (some v)) (ρ.set i (some (.tr l g))) :=
  F.bind r (fun o => nomatch o) n
/-- an object that no name owns changes -/
theorem Fr.put {K : PySem.W.Frag} {T : W3} {σ : L2.St} {ρ : PEnv} (F : Fr K T σ ρ) {a : Addr} {o : HO} (hi : T.i a = none) (n : NotOwn σ ρ a) : Fr K (T.put a o) σ ρ :=
  ⟨F.ok.put hi, F.len, fun j e h => by
    obtain ⟨v, h1, h2⟩ := F.val j e h
    exact ⟨v, h1, h2.put (fun z w => n.own j e h z (by rw [h1, w])) (n.inn j e h)⟩, F.sep, F.sepT, F.sepO⟩
/-- the own thing of name i changes -/
theorem Fr.chg {K : PySem.W.Frag} {T : W3} {σ : L2.St} {ρ : PEnv} (F : Fr K T σ ρ) {i : Nat} {a : Addr} {e e1 : E} {o : HO} (he : ρ[i]? = some (some e)) (ho : e.isOwn = true) (hs : σ[i]? = some (some (V.ref a))) (ho1 : e1.isOwn = true)
    (r : AtE K (T.put a o) (.ref a) e1) : Fr K (T.put a o) σ (ρ.set i (some e1)) := by
  obtain ⟨v, h1, h2⟩ := F.val i e he
  rw [hs] at h1
  cases h1
  obtain ⟨b, e2, hi, _⟩ := h2.addr ho
  cases e2
  have nin : e1.inn = [] := by cases e1 <;> first | rfl | cases ho1
  have get : ∀ {j : Nat} {e' : E}, (ρ.set i (some e1))[j]? = some (some e') → e'.isOwn = true → ∃ e0, ρ[j]? = some (some e0) ∧ e0.isOwn = true := fun {j e'} h o' => by
    rcases getset h with ⟨rfl, q⟩ | ⟨n, q⟩
    · exact ⟨e, he, ho⟩
    · exact ⟨e', q, o'⟩
  have getI : ∀ {j : Nat} {e' : E} {b : Addr}, (ρ.set i (some e1))[j]? = some (some e') → b ∈ e'.inn → ρ[j]? = some (some e') := fun {j e' b} h m => by
    rcases getset h with ⟨rfl, q⟩ | ⟨n, q⟩
    · cases q
      rw [nin] at m
      cases m
    · exact q
  refine ⟨F.ok.put hi, by rw [List.length_set, F.len], fun j e' h => ?_, fun j k e' e'' b h1 h2 o1 o2 s1 s2 => ?_, fun j k e' e'' b h1 h2 m1 m2 => F.sepT j k e' e'' b (getI h1 m1) (getI h2 m2) m1 m2, fun j k e' e'' b h1 h2 m1 o2 => ?_⟩
  · rcases getset h with ⟨rfl, q⟩ | ⟨n, q⟩
    · cases q
      exact ⟨_, hs, r⟩
    · obtain ⟨w, w1, w2⟩ := F.val j e' q
      exact ⟨w, w1, w2.put (fun z w' => n (F.sep i j e e' a he q ho z hs (by rw [w1, w']))) (fun m => F.sepO j i e' e a q he m ho hs)⟩
  · obtain ⟨f1, g1, g2⟩ := get h1 o1
    obtain ⟨f2, g3, g4⟩ := get h2 o2
    exact F.sep j k f1 f2 b g1 g3 g2 g4 s1 s2
  · obtain ⟨f2, g3, g4⟩ := get h2 o2
    exact F.sepO j k e' f2 b (getI h1 m1) g3 m1 g4
/-- a node of the tree of name i changes -/
theorem Fr.chgT {K : PySem.W.Frag} {T : W3} {σ : L2.St} {ρ : PEnv} (F : Fr K T σ ρ) {i : Nat} {a : Addr} {l : Lv} {g g1 : G} {o : HO} (he : ρ[i]? = some (some (.tr l g))) (ha : a ∈ adds g) (e : adds g1 = adds g)
    (r : ∀ v, σ[i]? = some (some v) → AtG K (T.at l) T.h v g → AtG K (T.at l) (upd T.h a o) v g1) : Fr K (T.put a o) σ (ρ.set i (some (.tr l g1))) := by
  obtain ⟨v, h1, h2⟩ := F.val i _ he
  have hi := h2.2.2.1 a ha
  have get : ∀ {j : Nat} {e' : E}, (ρ.set i (some (E.tr l g1)))[j]? = some (some e') → ∃ e0, ρ[j]? = some (some e0) ∧ e0.isOwn = e'.isOwn ∧ e0.inn = e'.inn := fun {j e'} h => by
    rcases getset h with ⟨rfl, q⟩ | ⟨n, q⟩
    · cases q
      exact ⟨_, he, rfl, e.symm⟩
    · exact ⟨e', q, rfl, rfl⟩
  refine ⟨F.ok.put hi, by rw [List.length_set, F.len], fun j e' h => ?_, fun j k e' e'' b h1 h2 o1 o2 s1 s2 => ?_, fun j k e' e'' b h1 h2 m1 m2 => ?_, fun j k e' e'' b h1 h2 m1 o2 => ?_⟩
  · rcases getset h with ⟨rfl, q⟩ | ⟨n, q⟩
    · cases q
      refine ⟨v, h1, h2.1, ?_, fun b m => h2.2.2.1 b (by rw [← e]; exact m), by rw [e]; exact h2.2.2.2⟩
      have z := r v h1 h2.2.1
      cases l with
      | full => exact absurd rfl h2.1
      | imm => exact z
      | frs => exact z
    · obtain ⟨w, w1, w2⟩ := F.val j e' q
      exact ⟨w, w1, w2.put (fun z w' => F.sepO i j _ e' a he q ha z (by rw [w1, w'])) (fun m => n (F.sepT i j _ e' a he q ha m))⟩
  · obtain ⟨f1, a1, b1, _⟩ := get h1
    obtain ⟨f2, a2, b2, _⟩ := get h2
    exact F.sep j k f1 f2 b a1 a2 (b1.trans o1) (b2.trans o2) s1 s2
  · obtain ⟨f1, a1, b1, c1⟩ := get h1
    obtain ⟨f2, a2, b2, c2⟩ := get h2
    exact F.sepT j k f1 f2 b a1 a2 (by rw [c1]; exact m1) (by rw [c2]; exact m2)
  · obtain ⟨f1, a1, b1, c1⟩ := get h1
    obtain ⟨f2, a2, b2, c2⟩ := get h2
    exact F.sepO j k f1 f2 b a1 a2 (by rw [c1]; exact m1) (b2.trans o2)
/-- the own thing of name m is kept as it is from now on -/
theorem Fr.keepO {K : PySem.W.Frag} {T : W3} {σ : L2.St} {ρ : PEnv} (F : Fr K T σ ρ) {m : Nat} {a : Addr} {e : E} {o : HO} {d : D} (he : ρ[m]? = some (some e)) (ho : e.isOwn = true) (hs : σ[m]? = some (some (V.ref a))) (hh : T.h a = some o) (hi : T.i a = none)
    (r : Rp K (T.fix a o).n (.ref a) d) : Gw T (T.fix a o) ∧ Fr K (T.fix a o) σ (ρ.set m (some (.v .frs d))) := by
  have hn := F.ok.n_none' hi
  have si : Same T.i (T.fix a o).i := same_new hi
  have sn : Same T.n (T.fix a o).n := same_new hn
  have ok : Ok (T.fix a o) := ⟨same_both F.ok.ni, same_up F.ok.ih hh⟩
  refine ⟨⟨ok, fun _ h => h, si, sn, fun b h1 h2 _ => ?_⟩, ok, by rw [List.length_set, F.len], fun j e' h => ?_, fun j k e' e'' b h1 h2 o1 o2 => ?_, fun j k e' e'' b h1 h2 m1 m2 => ?_, fun j k e' e'' b h1 h2 m1 o2 => ?_⟩
  · show upd T.n a o b = none
    rw [upd_ne (fun z => h2 (by rw [z]; exact hi))]
    exact h1
  · rcases getset h with ⟨rfl, q⟩ | ⟨n, q⟩
    · cases q
      exact ⟨_, hs, by decide, r⟩
    · obtain ⟨w, w1, w2⟩ := F.val j e' q
      refine ⟨w, w1, ?_⟩
      have ni : ∀ b, b ≠ a → T.i b = none → (T.fix a o).i b = none := fun b hb h => by
        show upd T.i a o b = none
        rw [upd_ne hb]
        exact h
      have na : ∀ b, e'.isOwn = true → w = .ref b → b ≠ a := fun b ob hb z => by
        subst z
        subst hb
        exact n (F.sep m j e e' b he q ho ob hs w1)
      have nt : ∀ b, b ∈ e'.inn → b ≠ a := fun b mb z => by
        subst z
        exact F.sepO j m e' e b q he mb ho hs
      cases e' with
      | v l d' =>
        refine ⟨w2.1, ?_⟩
        cases l with
        | full => exact absurd rfl w2.1
        | imm => exact w2.2.mono si
        | frs => exact w2.2.mono sn
      | ownI ns => obtain ⟨b, rfl, h1, h2⟩ := w2; exact ⟨b, rfl, h1, ni b (na b rfl rfl) h2⟩
      | own l ds =>
        obtain ⟨z, b, vs, rfl, h1, h2, rr⟩ := w2
        refine ⟨z, b, vs, rfl, h1, ni b (na b rfl rfl) h2, ?_⟩
        cases l with
        | full => exact absurd rfl z
        | imm => exact rr.mono si
        | frs => exact rr.mono sn
      | dI l ds =>
        obtain ⟨z, b, vs, rfl, h1, h2, rr⟩ := w2
        refine ⟨z, b, vs, rfl, h1, ni b (na b rfl rfl) h2, ?_⟩
        cases l with
        | full => exact absurd rfl z
        | imm => exact rr.mono si
        | frs => exact rr.mono sn
      | dT l ds =>
        obtain ⟨z, b, vs, rfl, h1, h2, rr⟩ := w2
        refine ⟨z, b, vs, rfl, h1, ni b (na b rfl rfl) h2, ?_⟩
        cases l with
        | full => exact absurd rfl z
        | imm => exact rr.mono si
        | frs => exact rr.mono sn
      | dF b o' ws l kvs =>
        obtain ⟨z, rfl, h1, h2, rr⟩ := w2
        refine ⟨z, rfl, h1, ni b (na b rfl rfl) h2, ?_⟩
        cases l with
        | full => exact absurd rfl z
        | imm => exact rr.mono si
        | frs => exact rr.mono sn
      | tr l g =>
        refine ⟨w2.1, ?_, fun b mb => ni b (nt b mb) (w2.2.2.1 b mb), w2.2.2.2⟩
        cases l with
        | full => exact absurd rfl w2.1
        | imm => exact w2.2.1.mono si (Same.refl _)
        | frs => exact w2.2.1.mono sn (Same.refl _)
  · rcases getset h1 with ⟨_, q⟩ | ⟨n1, q1⟩
    · cases q; cases o1
    · rcases getset h2 with ⟨_, q⟩ | ⟨n2, q2⟩
      · cases q; cases o2
      · exact F.sep j k e' e'' b q1 q2 o1 o2
  · rcases getset h1 with ⟨_, q⟩ | ⟨n1, q1⟩
    · cases q; cases m1
    · rcases getset h2 with ⟨_, q⟩ | ⟨n2, q2⟩
      · cases q; cases m2
      · exact F.sepT j k e' e'' b q1 q2 m1 m2
  · rcases getset h1 with ⟨_, q⟩ | ⟨n1, q1⟩
    · cases q; cases m1
    · rcases getset h2 with ⟨_, q⟩ | ⟨n2, q2⟩
      · cases q; cases o2
      · exact F.sepO j k e' e'' b q1 q2 m1 o2
/-- fewer names are spoken of -/
theorem Fr.forget {K : PySem.W.Frag} {T : W3} {σ : L2.St} {ρ ρ' : PEnv} (F : Fr K T σ ρ) (hl : ρ'.length = ρ.length) (h : ∀ (i : Nat) (e : E), ρ'[i]? = some (some e) → ρ[i]? = some (some e)) : Fr K T σ ρ' :=
  ⟨F.ok, F.len.trans hl.symm, fun i e q => F.val i e (h i e q), fun i j e e' a h1 h2 => F.sep i j e e' a (h i e h1) (h j e' h2), fun i j e e' a h1 h2 => F.sepT i j e e' a (h i e h1) (h j e' h2), fun i j e e' a h1 h2 => F.sepO i j e e' a (h i e h1) (h j e' h2)⟩

/-! ### judgements -/
def wE (X : Cx) (e : Expr) : TE := fun σ H Q => ∀ pins s, Inv X pins σ H s → wpAny (model X.prog X.w) X.A (eval e X.env) (EP X pins σ Q) X.xe s
def wT (X : Cx) (e : Expr) : TT := fun σ H Q => ∀ pins s, Inv X pins σ H s → wpAny (model X.prog X.w) X.A (isTrue e X.env (eval e X.env)) (TP X pins σ Q) X.xe s
def wW (X : Cx) (e : Expr) : TT := fun σ H Q => ∀ (whole : Sem Value) pins s, Inv X pins σ H s → wpAny (model X.prog X.w) X.A (isTrue e X.env whole) (TP X pins σ Q) X.xe s
def wA (X : Cx) (es : List Expr) : TA := fun σ H Q => ∀ (pos : Pos) pins s, Inv X pins σ H s → wpAny (model X.prog X.w) X.A (spliced (backTo pos (starEach es X.env))) (AP X pins σ Q) X.xe s
def wS (X : Cx) (st : Stmt) : TS := fun D σ H => ∀ pins s, Inv X pins σ H s → wpAny (model X.prog X.w) X.A (exec st X.env) (SP X pins D) X.xe s
def wSs (X : Cx) (st : List Stmt) : TS := fun D σ H => ∀ pins s, Inv X pins σ H s → wpAny (model X.prog X.w) X.A (execs st X.env) (SP X pins D) X.xe s
theorem pe_w {X : Cx} {e : Expr} : PE X e (wE X e) := ⟨fun pins s σ H Q I h => h pins s I⟩
theorem pt_w {X : Cx} {e : Expr} : PT X e (wT X e) := ⟨fun pins s σ H Q I h => h pins s I⟩
theorem pw_w {X : Cx} {e : Expr} : PW X e (wW X e) := ⟨fun wh pins s σ H Q I h => h wh pins s I⟩
theorem pa_w {X : Cx} {es : List Expr} : PA X es (wA X es) := ⟨fun pos pins s σ H Q I h => h pos pins s I⟩
theorem ps_w {X : Cx} {st : Stmt} : PS X st (wS X st) := ⟨fun pins s σ H D I h => h pins s I⟩
theorem pss_w {X : Cx} {st : List Stmt} : PSs X st (wSs X st) := ⟨fun pins s σ H D I h => h pins s I⟩

/-- e comes to d, held at l -/
def JE (X : Cx) (l : Lv) (e : Expr) (ρ : PEnv) (d : D) : Prop :=
  ∀ (T : W3) (σ : L2.St) (Q : VK), Fr X.K T σ ρ → (∀ v T', Grow T T' → Rp X.K (T'.at l) v d → Q v T'.h) → wE X e σ T.h Q
/-- a test comes to b -/
def JT (X : Cx) (e : Expr) (ρ : PEnv) (b : Bool) : Prop :=
  ∀ (T : W3) (σ : L2.St) (Q : Bool → Hp → Prop), Fr X.K T σ ρ → (∀ T', Grow T T' → Q b T'.h) → wT X e σ T.h Q
def JW (X : Cx) (e : Expr) (ρ : PEnv) (b : Bool) : Prop :=
  ∀ (T : W3) (σ : L2.St) (Q : Bool → Hp → Prop), Fr X.K T σ ρ → (∀ T', Grow T T' → Q b T'.h) → wW X e σ T.h Q
def JA (X : Cx) (l : Lv) (es : List Expr) (ρ : PEnv) (ds : List D) : Prop :=
  ∀ (T : W3) (σ : L2.St) (Q : List V → Hp → Prop), Fr X.K T σ ρ → (∀ vs T', Grow T T' → RpAll X.K (T'.at l) vs ds → Q vs T'.h) → wA X es σ T.h Q
/-- e comes to a new list of il; a new list -/
def JOI (X : Cx) (e : Expr) (ρ : PEnv) (ns : List Int) : Prop :=
  ∀ (T : W3) (σ : L2.St) (Q : VK), Fr X.K T σ ρ → (∀ a T', Grow T T' → T.h a = none → T'.i a = none → T'.h a = some (.lst (ns.map V.int)) → Q (.ref a) T'.h) → wE X e σ T.h Q
def JO (X : Cx) (l : Lv) (e : Expr) (ρ : PEnv) (ds : List D) : Prop :=
  ∀ (T : W3) (σ : L2.St) (Q : VK), Fr X.K T σ ρ → (∀ a vs T', Grow T T' → T.h a = none → T'.i a = none → T'.h a = some (.lst vs) → RpAll X.K (T'.at l) vs ds → Q (.ref a) T'.h) → wE X e σ T.h Q
structure PEnds where
  nx : PEnv → Prop
  rt : D → Prop
  bk : PEnv → Prop := fun _ => False
  ct : PEnv → Prop := fun _ => False
  ru : D → Prop := fun _ => False
  rf : PEnv → D → Prop := fun _ _ => False
/-- how pure ends are met -/
structure Meets (K : PySem.W.Frag) (T : W3) (P : PEnds) (D : Ends) : Prop where
  nx : ∀ ρ σ T', Gw T T' → Fr K T' σ ρ → P.nx ρ → D.nx σ T'.h
  rt : ∀ d v T', Gw T T' → P.rt d → Rp K T'.n v d → D.rt v T'.h
  bk : ∀ ρ σ T', Gw T T' → Fr K T' σ ρ → P.bk ρ → D.bk σ T'.h
  ct : ∀ ρ σ T', Gw T T' → Fr K T' σ ρ → P.ct ρ → D.ct σ T'.h
  ru : ∀ g v T', Gw T T' → P.ru (erase g) → AtG K T'.n T'.h v g → (∀ b, b ∈ adds g → T'.i b = none) → Nd g → D.rt v T'.h
  rf : ∀ ρ σ d v T', Gw T T' → Fr K T' σ ρ → P.rf ρ d → Rp K T'.n v d → D.rt v T'.h
theorem Meets.gw {K : PySem.W.Frag} {T T1 : W3} {P : PEnds} {D : Ends} (m : Meets K T P D) (g : Gw T T1) : Meets K T1 P D :=
  ⟨fun ρ σ T' g' => m.nx ρ σ T' (g.trans g'), fun d v T' g' => m.rt d v T' (g.trans g'), fun ρ σ T' g' => m.bk ρ σ T' (g.trans g'), fun ρ σ T' g' => m.ct ρ σ T' (g.trans g'), fun t v T' g' p r q nd => m.ru t v T' (g.trans g') p r q nd, fun ρ σ d v T' g' => m.rf ρ σ d v T' (g.trans g')⟩
def JS (X : Cx) (st : Stmt) (P : PEnds) (ρ : PEnv) : Prop := ∀ (T : W3) (σ : L2.St) (D : Ends), Fr X.K T σ ρ → Meets X.K T P D → wS X st D σ T.h
def JSs (X : Cx) (st : List Stmt) (P : PEnds) (ρ : PEnv) : Prop := ∀ (T : W3) (σ : L2.St) (D : Ends), Fr X.K T σ ρ → Meets X.K T P D → wSs X st D σ T.h

section
variable {X : Cx} {e a b c : Expr} {es : List Expr} {ρ : PEnv} {d d1 d2 d3 : D} {l la lb lc : Lv} {pos : Pos}

theorem JE.of {te : TE} (h : PE X e te) (r : ∀ (T : W3) (σ : L2.St) (Q : VK), Fr X.K T σ ρ → (∀ v T', Grow T T' → Rp X.K (T'.at l) v d → Q v T'.h) → te σ T.h Q) : JE X l e ρ d :=
  fun T σ Q F q pins s I => h.run pins s σ T.h Q I (r T σ Q F q)
theorem JT.of {tt : TT} {v : Bool} (h : PT X e tt) (r : ∀ (T : W3) (σ : L2.St) (Q : Bool → Hp → Prop), Fr X.K T σ ρ → (∀ T', Grow T T' → Q v T'.h) → tt σ T.h Q) : JT X e ρ v :=
  fun T σ Q F q pins s I => h.run pins s σ T.h Q I (r T σ Q F q)
theorem JW.of {tt : TT} {v : Bool} (h : PW X e tt) (r : ∀ (T : W3) (σ : L2.St) (Q : Bool → Hp → Prop), Fr X.K T σ ρ → (∀ T', Grow T T' → Q v T'.h) → tt σ T.h Q) : JW X e ρ v :=
  fun T σ Q F q wh pins s I => h.run wh pins s σ T.h Q I (r T σ Q F q)
theorem JW.pt {v : Bool} (h : JW X e ρ v) : JT X e ρ v := JT.of pw_w.pt h
theorem JA.of {ds : List D} {ta : TA} (h : PA X es ta) (r : ∀ (T : W3) (σ : L2.St) (Q : List V → Hp → Prop), Fr X.K T σ ρ → (∀ vs T', Grow T T' → RpAll X.K (T'.at l) vs ds → Q vs T'.h) → ta σ T.h Q) : JA X l es ρ ds :=
  fun T σ Q F q pos pins s I => h.run pos pins s σ T.h Q I (r T σ Q F q)
theorem JOI.of {te : TE} {ns : List Int} (h : PE X e te) (r : ∀ (T : W3) (σ : L2.St) (Q : VK), Fr X.K T σ ρ → (∀ a T', Grow T T' → T.h a = none → T'.i a = none → T'.h a = some (.lst (ns.map V.int)) → Q (.ref a) T'.h) → te σ T.h Q) : JOI X e ρ ns :=
  fun T σ Q F q pins s I => h.run pins s σ T.h Q I (r T σ Q F q)
theorem JO.of {te : TE} {ds : List D} (h : PE X e te) (r : ∀ (T : W3) (σ : L2.St) (Q : VK), Fr X.K T σ ρ → (∀ a vs T', Grow T T' → T.h a = none → T'.i a = none → T'.h a = some (.lst vs) → RpAll X.K (T'.at l) vs ds → Q (.ref a) T'.h) → te σ T.h Q) : JO X l e ρ ds :=
  fun T σ Q F q pins s I => h.run pins s σ T.h Q I (r T σ Q F q)
theorem JS.of {st : Stmt} {ts : TS} {P : PEnds} (h : PS X st ts) (r : ∀ (T : W3) (σ : L2.St) (D : Ends), Fr X.K T σ ρ → Meets X.K T P D → ts D σ T.h) : JS X st P ρ :=
  fun T σ D F m pins s I => h.run pins s σ T.h D I (r T σ D F m)
theorem JSs.of {st : List Stmt} {ts : TS} {P : PEnds} (h : PSs X st ts) (r : ∀ (T : W3) (σ : L2.St) (D : Ends), Fr X.K T σ ρ → Meets X.K T P D → ts D σ T.h) : JSs X st P ρ :=
  fun T σ D F m pins s I => h.run pins s σ T.h D I (r T σ D F m)
theorem JE.up {l' : Lv} (h : JE X l e ρ d) (z : Lv.le l l' = true) : JE X l' e ρ d := fun T σ Q F q => h T σ Q F fun v T' g r => q v T' g (r.mono (g.ok.le z))
theorem JE.sc {l' : Lv} (h : JE X l e ρ d) (z : scal d = true) : JE X l' e ρ d := fun T σ Q F q => h T σ Q F fun v T' g r => q v T' g (r.scal z)
/-- a new list is kept -/
theorem JOI.je {ns : List Int} (h : JOI X e ρ ns) : JE X .frs e ρ (.il ns) := fun T σ Q F q => h T σ Q F fun a T' g h0 hi hh =>
  q (.ref a) (T'.fix a _) (g.fix h0 hi hh) (.il upd_same)
theorem JO.je {ds : List D} (h : JO X l e ρ ds) (z : Lv.le l .imm = true := by rfl) : JE X l e ρ (.lst ds) := fun T σ Q F q => h T σ Q F fun a vs T' g h0 hi hh r => by
  cases l with
  | full => cases z
  | imm => exact q (.ref a) (T'.fixI a _) (g.fixI h0 hi hh) (.lst upd_same (r.mono (same_new hi)))
  | frs => exact q (.ref a) (T'.fix a _) (g.fix h0 hi hh) (.lst upd_same (r.mono (same_new (g.ok.n_none' hi))))
theorem JO.full {ds : List D} (h : JO X l e ρ ds) : JE X .full e ρ (.lst ds) := fun T σ Q F q => h T σ Q F fun a vs T' g h0 hi hh r => q (.ref a) T' g (.lst hh (r.mono g.ok.full))
theorem JO.up {l' : Lv} {ds : List D} (h : JO X l e ρ ds) (z : Lv.le l l' = true) : JO X l' e ρ ds := fun T σ Q F q => h T σ Q F fun a vs T' g h0 hi hh r => q a vs T' g h0 hi hh (r.mono (g.ok.le z))

/-! ### names and constants -/
theorem je_v (i : Nat) {x : Str} (hr : ρ[i]? = some (some (.v l d))) (hN : X.N[i]? = some x := by rfl) (hv : Vis X.env.scope x := by first | exact Or.inl rfl | exact Or.inr (Or.inl rfl) | exact Or.inr (Or.inr rfl)) (hd : (x == ("__debug__" : Str)) = false := by decide)
    (hcd : (x == ("__classdict__" : Str)) = false := by decide) : JE X l (.Name x pos) ρ d :=
  JE.of (pe_var hN hv hd hcd) fun T σ Q F q => by
    obtain ⟨v, h1, h2⟩ := F.val i _ hr
    exact ⟨v, h1, q v T (Grow.refl F.ok) h2.2⟩
/-- an own thing, read -/
theorem je_oI (i : Nat) {x : Str} {ns : List Int} (hr : ρ[i]? = some (some (.ownI ns))) (hN : X.N[i]? = some x := by rfl) (hv : Vis X.env.scope x := by first | exact Or.inl rfl | exact Or.inr (Or.inl rfl) | exact Or.inr (Or.inr rfl)) (hd : (x == ("__debug__" : Str)) = false := by decide)
    (hcd : (x == ("__classdict__" : Str)) = false := by decide) : JE X .full (.Name x pos) ρ (.il ns) :=
  JE.of (pe_var hN hv hd hcd) fun T σ Q F q => by
    obtain ⟨v, h1, a, rfl, h2, h3⟩ := F.val i _ hr
    exact ⟨_, h1, q _ T (Grow.refl F.ok) (.il h2)⟩
theorem je_o (i : Nat) {x : Str} {ds : List D} (hr : ρ[i]? = some (some (.own l ds))) (hN : X.N[i]? = some x := by rfl) (hv : Vis X.env.scope x := by first | exact Or.inl rfl | exact Or.inr (Or.inl rfl) | exact Or.inr (Or.inr rfl)) (hd : (x == ("__debug__" : Str)) = false := by decide)
    (hcd : (x == ("__classdict__" : Str)) = false := by decide) : JE X .full (.Name x pos) ρ (.lst ds) :=
  JE.of (pe_var hN hv hd hcd) fun T σ Q F q => by
    obtain ⟨v, h1, _, a, vs, rfl, h2, h3, r⟩ := F.val i _ hr
    exact ⟨_, h1, q _ T (Grow.refl F.ok) (.lst h2 (r.mono F.ok.full))⟩
theorem je_int {i : Int} {j : Nat} : JE X .frs (.Constant (.int i) j pos) ρ (.int i) := JE.of pe_int fun T σ Q F q => q _ T (Grow.refl F.ok) (.int i)
theorem je_bl {i : Bool} {j : Nat} : JE X .frs (.Constant (.bool i) j pos) ρ (.bl i) := JE.of pe_bl fun T σ Q F q => q _ T (Grow.refl F.ok) (.bl i)
theorem je_non {j : Nat} : JE X .frs (.Constant .none j pos) ρ .non := JE.of pe_non fun T σ Q F q => q _ T (Grow.refl F.ok) .non
theorem je_str {x : Str} {j : Nat} : JE X .frs (.Constant (.str x) j pos) ρ (.str x) := JE.of pe_str fun T σ Q F q => q _ T (Grow.refl F.ok) (.str x)

/-! ### operators -/
theorem je_op {op : Operator} {r : R2} (ho : OpR X (binaryOp op) r) (ha : JE X la a ρ d1) (hb : JE X lb b ρ d2)
    (hr : ∀ (T : W3) v u (Q : VK), Ok T → Rp X.K T.h v d1 → Rp X.K T.h u d2 → (∀ w T', Grow T T' → Rp X.K (T'.at l) w d3 → Q w T'.h) → r v u T.h Q) : JE X l (.BinOp a op b pos) ρ d3 :=
  JE.of (pe_op ho pe_w pe_w) fun T σ Q F q => ha T σ _ F fun v T1 g1 r1 => hb T1 σ _ (F.grow g1) fun u T2 g2 r2 =>
    hr T2 v u Q g2.ok ((r1.mono g1.ok.full).mono g2.ex) (r2.mono g2.ok.full) fun w T3 g3 r3 => q w T3 ((g1.trans g2).trans g3) r3
theorem je_cmp {op : CmpOp} {r : R2} (ho : OpR X (compareOp op) r) (ha : JE X la a ρ d1) (hb : JE X lb b ρ d2) (hm : behindInMarks op b = false)
    (hr : ∀ (T : W3) v u (Q : VK), Ok T → Rp X.K T.h v d1 → Rp X.K T.h u d2 → (∀ w T', Grow T T' → Rp X.K (T'.at l) w d3 → Q w T'.h) → r v u T.h Q) : JE X l (.Compare a [op] [b] pos) ρ d3 :=
  JE.of (pe_cmpR ho pe_w pe_w hm) fun T σ Q F q => ha T σ _ F fun v T1 g1 r1 => hb T1 σ _ (F.grow g1) fun u T2 g2 r2 =>
    hr T2 v u Q g2.ok ((r1.mono g1.ok.full).mono g2.ex) (r2.mono g2.ok.full) fun w T3 g3 r3 => q w T3 ((g1.trans g2).trans g3) r3
theorem r_I0 {g : Int → Int → V} {g' : Int → Int → D} (hg : ∀ i j H, Rp X.K H (g i j) (g' i j)) {i j : Int} (T : W3) (v u : V) (Q : VK) (o : Ok T) (r1 : Rp X.K T.h v (.int i)) (r2 : Rp X.K T.h u (.int j)) (q : ∀ w T', Grow T T' → Rp X.K (T'.at .frs) w (g' i j) → Q w T'.h) : rI0 g v u T.h Q := by
  cases r1
  cases r2
  exact ⟨i, j, rfl, rfl, q _ T (Grow.refl o) (hg i j _)⟩
theorem r_I {C : Int → Int → Prop} {g : Int → Int → V} {g' : Int → Int → D} (hg : ∀ i j H, Rp X.K H (g i j) (g' i j)) {i j : Int} (hc : C i j) (T : W3) (v u : V) (Q : VK) (o : Ok T) (r1 : Rp X.K T.h v (.int i)) (r2 : Rp X.K T.h u (.int j)) (q : ∀ w T', Grow T T' → Rp X.K (T'.at .frs) w (g' i j) → Q w T'.h) : rI C g v u T.h Q := by
  cases r1
  cases r2
  exact ⟨i, j, rfl, rfl, hc, q _ T (Grow.refl o) (hg i j _)⟩
variable {i j : Int}
theorem je_add (ha : JE X la a ρ (.int i)) (hb : JE X lb b ρ (.int j)) : JE X .frs (.BinOp a .Add b pos) ρ (.int (i + j)) := je_op op_add ha hb (r_I0 (g' := fun i j => .int (i + j)) fun _ _ _ => .int _)
theorem je_sub (ha : JE X la a ρ (.int i)) (hb : JE X lb b ρ (.int j)) : JE X .frs (.BinOp a .Sub b pos) ρ (.int (i - j)) := je_op op_sub ha hb (r_I0 (g' := fun i j => .int (i - j)) fun _ _ _ => .int _)
theorem je_mul (ha : JE X la a ρ (.int i)) (hb : JE X lb b ρ (.int j)) (hc : CMul i j) : JE X .frs (.BinOp a .Mult b pos) ρ (.int (i * j)) := je_op op_mul ha hb (r_I (g' := fun i j => .int (i * j)) (fun _ _ _ => .int _) hc)
theorem je_mulW (ha : JE X la a ρ (.int i)) (hb : JE X lb b ρ (.int j)) (hc : CMulW i j) : JE X .frs (.BinOp a .Mult b pos) ρ (.int (i * j)) := je_op op_mulW ha hb (r_I (g' := fun i j => .int (i * j)) (fun _ _ _ => .int _) hc)
theorem je_pow (ha : JE X la a ρ (.int i)) (hb : JE X lb b ρ (.int j)) (hc : CPow i j) : JE X .frs (.BinOp a .Pow b pos) ρ (.int (i ^ j.toNat)) := je_op op_pow ha hb (r_I (g' := fun i j => .int (i ^ j.toNat)) (fun _ _ _ => .int _) hc)
theorem je_mod (ha : JE X la a ρ (.int i)) (hb : JE X lb b ρ (.int j)) (hc : 0 < j) : JE X .frs (.BinOp a .Mod b pos) ρ (.int (i % j)) := je_op op_mod ha hb (r_I (g' := fun i j => .int (i % j)) (fun _ _ _ => .int _) hc)
theorem je_div (ha : JE X la a ρ (.int i)) (hb : JE X lb b ρ (.int j)) (hc : CDiv i j) : JE X .frs (.BinOp a .FloorDiv b pos) ρ (.int (i / j)) := je_op op_fdiv ha hb (r_I (g' := fun i j => .int (i / j)) (fun _ _ _ => .int _) hc)
theorem je_lt (ha : JE X la a ρ (.int i)) (hb : JE X lb b ρ (.int j)) : JE X .frs (.Compare a [.Lt] [b] pos) ρ (.bl (decide (i < j))) := je_cmp op_lt ha hb (nomark _) (r_I0 (g' := fun i j => .bl (decide (i < j))) fun _ _ _ => .bl _)
theorem je_le (ha : JE X la a ρ (.int i)) (hb : JE X lb b ρ (.int j)) : JE X .frs (.Compare a [.LtE] [b] pos) ρ (.bl (decide (i ≤ j))) := je_cmp op_le ha hb (nomark _) (r_I0 (g' := fun i j => .bl (decide (i ≤ j))) fun _ _ _ => .bl _)
theorem je_gt (ha : JE X la a ρ (.int i)) (hb : JE X lb b ρ (.int j)) : JE X .frs (.Compare a [.Gt] [b] pos) ρ (.bl (decide (j < i))) := je_cmp op_gt ha hb (nomark _) (r_I0 (g' := fun i j => .bl (decide (j < i))) fun _ _ _ => .bl _)
theorem je_ge (ha : JE X la a ρ (.int i)) (hb : JE X lb b ρ (.int j)) : JE X .frs (.Compare a [.GtE] [b] pos) ρ (.bl (decide (j ≤ i))) := je_cmp op_ge ha hb (nomark _) (r_I0 (g' := fun i j => .bl (decide (j ≤ i))) fun _ _ _ => .bl _)
theorem je_neg (ha : JE X la a ρ (.int i)) : JE X .frs (.UnaryOp .USub a pos) ρ (.int (-i)) := JE.of (pe_un un_neg pe_w) fun T σ Q F q => ha T σ _ F fun v T1 g1 r1 => by
  cases r1
  exact ⟨i, rfl, q _ T1 g1 (.int _)⟩

/-! ### == by pure data -/
mutual
def py : D → PyData
  | .non => .none
  | .bl b => .bool b
  | .int i => .int i
  | .str x => .str x
  | .il ns => .list (ns.map PyData.int)
  | .scr ns => .list (ns.map PyData.int)
  | .lst ds => .list (pys ds)
  | .tup ds => .tuple (pys ds)
  | .obj _ _ => .none
  | .ptr _ => .none
def pys : List D → List PyData
  | [] => []
  | d :: r => py d :: pys r
end
mutual
def plain : D → Bool
  | .non => true
  | .bl _ => true
  | .int _ => true
  | .str _ => true
  | .il _ => true
  | .scr _ => true
  | .lst ds => plains ds
  | .tup ds => plains ds
  | .obj _ _ => false
  | .ptr _ => false
def plains : List D → Bool
  | [] => true
  | d :: r => plain d && plains r
end
theorem DpAll.il {K : PySem.W.Frag} {H : Hp} : ∀ (ns : List Int), DpAll K H (ns.map V.int) (ns.map PyData.int)
  | [] => .nil
  | n :: r => .cons (.int n) (DpAll.il r)
mutual
theorem Rp.dp {K : PySem.W.Frag} {H : Hp} : ∀ {v : V} {d : D}, Rp K H v d → plain d = true → Dp K H v (py d)
  | _, _, .non, _ => by rw [py]; exact .non
  | _, _, .bl b, _ => by rw [py]; exact .bl b
  | _, _, .int i, _ => by rw [py]; exact .int i
  | _, _, .str x, _ => by rw [py]; exact .str x
  | _, _, .il (ns := ns) h, _ => by rw [py]; exact .lst (SqL.of h) (DpAll.il ns)
  | _, _, .scr (ns := ns) h, _ => by rw [py]; exact .lst h (DpAll.il ns)
  | _, _, .lst h r, p => by rw [py]; exact .lst (SqL.of h) (RpAll.dp r (by rw [plain] at p; exact p))
  | _, _, .tup h r, p => by rw [py]; exact .tup (SqT.of h) (RpAll.dp r (by rw [plain] at p; exact p))
  | _, _, .obj h r, p => by rw [plain] at p; cases p
theorem RpAll.dp {K : PySem.W.Frag} {H : Hp} : ∀ {vs : List V} {ds : List D}, RpAll K H vs ds → plains ds = true → DpAll K H vs (pys ds)
  | _, _, .nil, _ => by rw [pys]; exact .nil
  | _, _, .cons h r, p => by
    rw [pys]
    rw [plains, Bool.and_eq_true] at p
    exact .cons (Rp.dp h p.1) (RpAll.dp r p.2)
end
def eqD (d e : D) : Bool := PyData.eqv (py d) (py e)
theorem je_eqD (hu : X.A.units + 64 < cLine) (ha : JE X la a ρ d1) (hb : JE X lb b ρ d2) (p1 : plain d1 = true) (p2 : plain d2 = true) (s1 : SeqAt.shaped (py d1) = true) (s2 : SeqAt.shaped (py d2) = true) :
    JE X .frs (.Compare a [.Eq] [b] pos) ρ (.bl (eqD d1 d2)) :=
  je_cmp (op_eqD hu) ha hb (nomark _) fun T v u Q o r1 r2 q => ⟨_, _, r1.dp p1, r2.dp p2, s1, s2, q _ T (Grow.refl o) (.bl _)⟩
theorem je_neD (hu : X.A.units + 64 < cLine) (ha : JE X la a ρ d1) (hb : JE X lb b ρ d2) (p1 : plain d1 = true) (p2 : plain d2 = true) (s1 : SeqAt.shaped (py d1) = true) (s2 : SeqAt.shaped (py d2) = true) :
    JE X .frs (.Compare a [.NotEq] [b] pos) ρ (.bl (!eqD d1 d2)) :=
  je_cmp (op_neD hu) ha hb (nomark _) fun T v u Q o r1 r2 q => ⟨_, _, r1.dp p1, r2.dp p2, s1, s2, q _ T (Grow.refl o) (.bl _)⟩
end
end Lf

set_option Elab.async false
set_option linter.all false
set_option maxRecDepth 100000
set_option maxHeartbeats 2000000
set_option autoImplicit false
namespace Lf
open PySem L2
section
variable {X : Cx} {e a b c : Expr} {es : List Expr} {ρ : PEnv} {d d1 d2 d3 : D} {l la lb lc : Lv} {pos : Pos} {i j k : Int} {ns ms : List Int} {ds : List D} {kt : Nat}

/-! ### comparisons -/
def wC (X : Cx) (op : CmpOp) (a b : Expr) : TE := fun σ H Q => ∀ pins s, Inv X pins σ H s →
    wpAny (model X.prog X.w) X.A (eval a X.env) (fun v s₁ => wpAny (model X.prog X.w) X.A (eval b X.env) (fun u s₂ => wpAny (model X.prog X.w) X.A (compareOp op v u) (EP X pins σ Q) X.xe s₂) X.xe s₁) X.xe s
theorem pc_w {op : CmpOp} : PC X op a b (wC X op a b) := ⟨fun pins s σ H Q I h => h pins s I⟩
/-- a op b comes to v -/
def JC (X : Cx) (op : CmpOp) (a b : Expr) (ρ : PEnv) (v : Bool) : Prop :=
  ∀ (T : W3) (σ : L2.St) (Q : VK), Fr X.K T σ ρ → (∀ T', Grow T T' → Q (.bl v) T'.h) → wC X op a b σ T.h Q
theorem jc_of {op : CmpOp} {r : R2} {v : Bool} (ho : OpR X (compareOp op) r) (ha : JE X la a ρ d1) (hb : JE X lb b ρ d2)
    (hr : ∀ (T : W3) x u (Q : VK), Ok T → Rp X.K T.h x d1 → Rp X.K T.h u d2 → (∀ T', Grow T T' → Q (.bl v) T'.h) → r x u T.h Q) : JC X op a b ρ v :=
  fun T σ Q F q pins s I => by
    refine bin (ta := wE X a) (tb := wE X b) pe_w pe_w I (R := fun x y H2 => r x y H2 Q) ?_ fun v u s2 x y H2 I2 rx ry h => ho pins s2 σ H2 x y v u Q I2 rx ry h
    exact ha T σ _ F fun v T1 g1 r1 => hb T1 σ _ (F.grow g1) fun u T2 g2 r2 =>
      hr T2 v u Q g2.ok ((r1.mono g1.ok.full).mono g2.ex) (r2.mono g2.ok.full) fun T3 g3 => q T3 ((g1.trans g2).trans g3)
theorem je_c {op : CmpOp} {v : Bool} (h : JC X op a b ρ v) (h1 : behindInMarks op b = false := by exact bm_ns rfl) : JE X .frs (.Compare a [op] [b] pos) ρ (.bl v) :=
  JE.of (pe_cmp pc_w h1) fun T σ Q F q => h T σ Q F fun T' g => q _ T' g (.bl v)
theorem jt_c {op : CmpOp} {v : Bool} (h : JC X op a b ρ v) (h1 : behindInMarks op b = false := by exact bm_ns rfl) : JT X (.Compare a [op] [b] pos) ρ v :=
  JT.of (pt_cmp pc_w h1) fun T σ Q F q => h T σ _ F fun T' g => ⟨v, rfl, q T' g⟩
theorem jc_I0 {op : CmpOp} {g : Int → Int → Bool} (ho : OpR X (compareOp op) (rI0 fun i j => .bl (g i j))) (ha : JE X la a ρ (.int i)) (hb : JE X lb b ρ (.int j)) : JC X op a b ρ (g i j) :=
  jc_of ho ha hb fun T x u Q o r1 r2 q => by
    cases r1
    cases r2
    exact ⟨i, j, rfl, rfl, q T (Grow.refl o)⟩
theorem jc_lt (ha : JE X la a ρ (.int i)) (hb : JE X lb b ρ (.int j)) : JC X .Lt a b ρ (decide (i < j)) := jc_I0 (g := fun i j => decide (i < j)) op_lt ha hb
theorem jc_le (ha : JE X la a ρ (.int i)) (hb : JE X lb b ρ (.int j)) : JC X .LtE a b ρ (decide (i ≤ j)) := jc_I0 (g := fun i j => decide (i ≤ j)) op_le ha hb
theorem jc_gt (ha : JE X la a ρ (.int i)) (hb : JE X lb b ρ (.int j)) : JC X .Gt a b ρ (decide (j < i)) := jc_I0 (g := fun i j => decide (j < i)) op_gt ha hb
theorem jc_ge (ha : JE X la a ρ (.int i)) (hb : JE X lb b ρ (.int j)) : JC X .GtE a b ρ (decide (j ≤ i)) := jc_I0 (g := fun i j => decide (j ≤ i)) op_ge ha hb
theorem jc_eq (ha : JE X la a ρ (.int i)) (hb : JE X lb b ρ (.int j)) : JC X .Eq a b ρ (decide (i = j)) :=
  jc_of op_eq ha hb fun T x u Q o r1 r2 q => by
    cases r1
    cases r2
    refine ⟨rfl, ?_⟩
    rw [show decide (V.int i = V.int j) = decide (i = j) from decide_eq_decide.mpr ⟨fun h => V.int.inj h, fun h => by rw [h]⟩]
    exact q T (Grow.refl o)
theorem jc_ne (ha : JE X la a ρ (.int i)) (hb : JE X lb b ρ (.int j)) : JC X .NotEq a b ρ (!decide (i = j)) :=
  jc_of op_ne ha hb fun T x u Q o r1 r2 q => by
    cases r1
    cases r2
    refine ⟨rfl, ?_⟩
    rw [show decide (V.int i = V.int j) = decide (i = j) from decide_eq_decide.mpr ⟨fun h => V.int.inj h, fun h => by rw [h]⟩]
    exact q T (Grow.refl o)
theorem jc_eqB {p q : Bool} (ha : JE X la a ρ (.bl p)) (hb : JE X lb b ρ (.bl q)) : JC X .Eq a b ρ (p == q) :=
  jc_of op_eq ha hb fun T x u Q o r1 r2 z => by
    cases r1
    cases r2
    refine ⟨rfl, ?_⟩
    rw [dec_bl]
    exact z T (Grow.refl o)
theorem jc_neB {p q : Bool} (ha : JE X la a ρ (.bl p)) (hb : JE X lb b ρ (.bl q)) : JC X .NotEq a b ρ (!(p == q)) :=
  jc_of op_ne ha hb fun T x u Q o r1 r2 z => by
    cases r1
    cases r2
    refine ⟨rfl, ?_⟩
    rw [dec_bl]
    exact z T (Grow.refl o)
theorem jc_isB {p q : Bool} (ha : JE X la a ρ (.bl p)) (hb : JE X lb b ρ (.bl q)) : JC X .Is a b ρ (p == q) :=
  jc_of op_isBl ha hb fun T x u Q o r1 r2 z => by
    cases r1
    cases r2
    refine ⟨p, q, rfl, rfl, ?_⟩
    rw [show decide (p = q) = (p == q) by cases p <;> cases q <;> rfl]
    exact z T (Grow.refl o)
theorem jc_isnotB {p q : Bool} (ha : JE X la a ρ (.bl p)) (hb : JE X lb b ρ (.bl q)) : JC X .IsNot a b ρ (!(p == q)) :=
  jc_of op_notBl ha hb fun T x u Q o r1 r2 z => by
    cases r1
    cases r2
    refine ⟨p, q, rfl, rfl, ?_⟩
    rw [show decide (p = q) = (p == q) by cases p <;> cases q <;> rfl]
    exact z T (Grow.refl o)
/-- == of pure data -/
theorem jc_eqD (hu : X.A.units + 64 < cLine) (ha : JE X la a ρ d1) (hb : JE X lb b ρ d2) (p1 : plain d1 = true) (p2 : plain d2 = true) (s1 : SeqAt.shaped (py d1) = true) (s2 : SeqAt.shaped (py d2) = true) : JC X .Eq a b ρ (eqD d1 d2) :=
  jc_of (op_eqD hu) ha hb fun T v u Q o r1 r2 q => ⟨_, _, r1.dp p1, r2.dp p2, s1, s2, q T (Grow.refl o)⟩
theorem jc_neD (hu : X.A.units + 64 < cLine) (ha : JE X la a ρ d1) (hb : JE X lb b ρ d2) (p1 : plain d1 = true) (p2 : plain d2 = true) (s1 : SeqAt.shaped (py d1) = true) (s2 : SeqAt.shaped (py d2) = true) : JC X .NotEq a b ρ (!eqD d1 d2) :=
  jc_of (op_neD hu) ha hb fun T v u Q o r1 r2 q => ⟨_, _, r1.dp p1, r2.dp p2, s1, s2, q T (Grow.refl o)⟩
theorem canAll_ints : ∀ ns : List Int, PyData.canLayAll0 (ns.map PyData.int) = true
  | [] => rfl
  | n :: r => by
    rw [List.map_cons, PyData.canLayAll0, canAll_ints r]
    rfl
theorem depth_ints : ∀ ns : List Int, PyData.depthAll (ns.map PyData.int) ≤ 1
  | [] => by decide
  | n :: r => by
    have := depth_ints r
    rw [List.map_cons, PyData.depthAll]
    exact Nat.max_le.mpr ⟨by rw [PyData.depth]; exact Nat.zero_le _, this⟩
theorem shaped_ints (ns : List Int) : SeqAt.shaped (py (.il ns)) = true := by
  unfold SeqAt.shaped
  rw [py, PyData.canLay0, canAll_ints]
  have := depth_ints ns
  rw [Bool.true_and, decide_eq_true_eq, PyData.depth]
  exact Nat.le_trans (Nat.succ_le_succ this) (by decide)
theorem eqvAll_ints : ∀ xs ys : List Int, PyData.eqvAll (xs.map PyData.int) (ys.map PyData.int) = decide (xs = ys)
  | [], [] => rfl
  | x :: xs, [] => by rw [List.map_cons, List.map_nil, PyData.eqvAll]; simp
  | [], y :: ys => by rw [List.map_cons, List.map_nil, PyData.eqvAll]; simp
  | x :: xs, y :: ys => by
    rw [List.map_cons, List.map_cons, PyData.eqvAll, eqvAll_ints xs ys, PyData.eqv]
    by_cases h : x = y
    · subst h; simp
    · simp [h]
theorem eqD_il (xs ys : List Int) : eqD (.il xs) (.il ys) = decide (xs = ys) := by
  unfold eqD
  rw [py, py, PyData.eqv, eqvAll_ints]
theorem jc_eqL (hu : X.A.units + 64 < cLine) (ha : JE X la a ρ (.il ns)) (hb : JE X lb b ρ (.il ms)) : JC X .Eq a b ρ (decide (ns = ms)) := by
  have h := jc_eqD hu ha hb rfl rfl (shaped_ints ns) (shaped_ints ms)
  rw [eqD_il] at h
  exact h
theorem jc_neL (hu : X.A.units + 64 < cLine) (ha : JE X la a ρ (.il ns)) (hb : JE X lb b ρ (.il ms)) : JC X .NotEq a b ρ (!decide (ns = ms)) := by
  have h := jc_neD hu ha hb rfl rfl (shaped_ints ns) (shaped_ints ms)
  rw [eqD_il] at h
  exact h
/-- x in xs, of ints -/
theorem inV_ints (x : Int) : ∀ ns : List Int, inV (.int x) (ns.map V.int) = decide (x ∈ ns)
  | [] => by simp [inV]
  | n :: r => by
    have ih := inV_ints x r
    unfold inV at ih ⊢
    rw [List.map_cons, List.any_cons, ih]
    show (n == x || decide (x ∈ r)) = decide (x ∈ n :: r)
    by_cases h : n = x
    · subst h; simp
    · have h' : ¬ x = n := fun z => h z.symm
      simp [h, h']
theorem flat_ints : ∀ ns : List Int, (ns.map V.int).all flatV = true
  | [] => rfl
  | n :: r => by rw [List.map_cons, List.all_cons, flat_ints r]; rfl
theorem jc_in (ha : JE X la a ρ (.int i)) (hb : JE X lb b ρ (.il ns)) : JC X .In a b ρ (decide (i ∈ ns)) :=
  jc_of op_in_seq ha hb fun T x u Q o r1 r2 q => by
    cases r1
    cases r2 with
    | il h =>
      have h := SqL.of (K := X.K) h
      refine ⟨_, _, rfl, .inl h, rfl, flat_ints ns, ?_⟩
      rw [inV_ints]
      exact q T (Grow.refl o)
theorem jc_notin (ha : JE X la a ρ (.int i)) (hb : JE X lb b ρ (.il ns)) : JC X .NotIn a b ρ (!decide (i ∈ ns)) :=
  jc_of op_notIn_seq ha hb fun T x u Q o r1 r2 q => by
    cases r1
    cases r2 with
    | il h =>
      have h := SqL.of (K := X.K) h
      refine ⟨_, _, rfl, .inl h, rfl, flat_ints ns, ?_⟩
      rw [inV_ints]
      exact q T (Grow.refl o)
/-- d in ds, of pure data -/
theorem jc_inD (hu : X.A.units + 65 < cLine) (ha : JE X la a ρ d) (hb : JE X lb b ρ (.lst ds)) (p1 : plain d = true) (p2 : plains ds = true) (s1 : SeqAt.shaped (py d) = true) (s2 : SeqAt.shaped (.list (pys ds)) = true) :
    JC X .In a b ρ ((pys ds).any fun z => PyData.eqv z (py d)) :=
  jc_of (op_inD hu) ha hb fun T x u Q o r1 r2 q => by
    have h2 := r2.dp (by rw [plain]; exact p2)
    rw [py] at h2
    exact ⟨_, _, r1.dp p1, h2, s1, s2, q T (Grow.refl o)⟩
theorem jc_notinD (hu : X.A.units + 65 < cLine) (ha : JE X la a ρ d) (hb : JE X lb b ρ (.lst ds)) (p1 : plain d = true) (p2 : plains ds = true) (s1 : SeqAt.shaped (py d) = true) (s2 : SeqAt.shaped (.list (pys ds)) = true) :
    JC X .NotIn a b ρ (!(pys ds).any fun z => PyData.eqv z (py d)) :=
  jc_of (op_notInD hu) ha hb fun T x u Q o r1 r2 q => by
    have h2 := r2.dp (by rw [plain]; exact p2)
    rw [py] at h2
    exact ⟨_, _, r1.dp p1, h2, s1, s2, q T (Grow.refl o)⟩
/-- a op b op' c, of ints -/
theorem je_chain {op op' : CmpOp} {g g' : Int → Int → Bool} (ho : OpR X (compareOp op) (rI0 fun i j => .bl (g i j))) (ho' : OpR X (compareOp op') (rI0 fun i j => .bl (g' i j)))
    (ha : JE X la a ρ (.int i)) (hb : JE X lb b ρ (.int j)) (hc : g i j = true → JE X lc c ρ (.int k)) (hm : lastMarks [op, op'] [b, c] = false := by exact lm_ns rfl) :
    JE X .frs (.Compare a [op, op'] [b, c] pos) ρ (.bl (g i j && g' j k)) :=
  JE.of (pe_chain ho ho' pe_w pe_w pe_w hm) fun T σ Q F q => ha T σ _ F fun v T1 g1 r1 => hb T1 σ _ (F.grow g1) fun u T2 g2 r2 => by
    cases r1
    cases r2
    refine ⟨i, j, rfl, rfl, _, rfl, ?_⟩
    cases e : g i j with
    | false =>
      refine iteF ?_
      rw [e] at q
      exact q _ T2 (g1.trans g2) (.bl _)
    | true =>
      rw [e] at q
      refine iteT (hc e T2 σ _ ((F.grow g1).grow g2) fun w T3 g3 r3 => ?_)
      cases r3
      exact ⟨j, k, rfl, rfl, q _ T3 ((g1.trans g2).trans g3) (.bl _)⟩
theorem jt_chain {op op' : CmpOp} {g g' : Int → Int → Bool} (ho : OpR X (compareOp op) (rI0 fun i j => .bl (g i j))) (ho' : OpR X (compareOp op') (rI0 fun i j => .bl (g' i j)))
    (ha : JE X la a ρ (.int i)) (hb : JE X lb b ρ (.int j)) (hc : g i j = true → JE X lc c ρ (.int k)) (hm : lastMarks [op, op'] [b, c] = false := by exact lm_ns rfl) :
    JT X (.Compare a [op, op'] [b, c] pos) ρ (g i j && g' j k) :=
  JT.of (pt_chain ho ho' pe_w pe_w pe_w hm) fun T σ Q F q => ha T σ _ F fun v T1 g1 r1 => hb T1 σ _ (F.grow g1) fun u T2 g2 r2 => by
    cases r1
    cases r2
    refine ⟨i, j, rfl, rfl, _, rfl, ?_⟩
    cases e : g i j with
    | false =>
      refine iteF ⟨_, rfl, ?_⟩
      rw [e] at q
      exact q T2 (g1.trans g2)
    | true =>
      refine iteT (hc e T2 σ _ ((F.grow g1).grow g2) fun w T3 g3 r3 => ?_)
      cases r3
      rw [e] at q
      exact ⟨j, k, rfl, rfl, _, rfl, q T3 ((g1.trans g2).trans g3)⟩
abbrev gLt : Int → Int → Bool := fun i j => decide (i < j)
abbrev gLe : Int → Int → Bool := fun i j => decide (i ≤ j)
theorem je_ltlt (ha : JE X la a ρ (.int i)) (hb : JE X lb b ρ (.int j)) (hc : JE X lc c ρ (.int k)) (hm : lastMarks [.Lt, .Lt] [b, c] = false := by exact lm_ns rfl) : JE X .frs (.Compare a [.Lt, .Lt] [b, c] pos) ρ (.bl (decide (i < j) && decide (j < k))) := je_chain (g := gLt) (g' := gLt) op_lt op_lt ha hb (fun _ => hc) hm
theorem je_lelt (ha : JE X la a ρ (.int i)) (hb : JE X lb b ρ (.int j)) (hc : JE X lc c ρ (.int k)) (hm : lastMarks [.LtE, .Lt] [b, c] = false := by exact lm_ns rfl) : JE X .frs (.Compare a [.LtE, .Lt] [b, c] pos) ρ (.bl (decide (i ≤ j) && decide (j < k))) := je_chain (g := gLe) (g' := gLt) op_le op_lt ha hb (fun _ => hc) hm
theorem je_ltle (ha : JE X la a ρ (.int i)) (hb : JE X lb b ρ (.int j)) (hc : JE X lc c ρ (.int k)) (hm : lastMarks [.Lt, .LtE] [b, c] = false := by exact lm_ns rfl) : JE X .frs (.Compare a [.Lt, .LtE] [b, c] pos) ρ (.bl (decide (i < j) && decide (j ≤ k))) := je_chain (g := gLt) (g' := gLe) op_lt op_le ha hb (fun _ => hc) hm
theorem je_lele (ha : JE X la a ρ (.int i)) (hb : JE X lb b ρ (.int j)) (hc : JE X lc c ρ (.int k)) (hm : lastMarks [.LtE, .LtE] [b, c] = false := by exact lm_ns rfl) : JE X .frs (.Compare a [.LtE, .LtE] [b, c] pos) ρ (.bl (decide (i ≤ j) && decide (j ≤ k))) := je_chain (g := gLe) (g' := gLe) op_le op_le ha hb (fun _ => hc) hm
theorem jt_ltlt (ha : JE X la a ρ (.int i)) (hb : JE X lb b ρ (.int j)) (hc : JE X lc c ρ (.int k)) (hm : lastMarks [.Lt, .Lt] [b, c] = false := by exact lm_ns rfl) : JT X (.Compare a [.Lt, .Lt] [b, c] pos) ρ (decide (i < j) && decide (j < k)) := jt_chain (g := gLt) (g' := gLt) op_lt op_lt ha hb (fun _ => hc) hm
theorem jt_lelt (ha : JE X la a ρ (.int i)) (hb : JE X lb b ρ (.int j)) (hc : JE X lc c ρ (.int k)) (hm : lastMarks [.LtE, .Lt] [b, c] = false := by exact lm_ns rfl) : JT X (.Compare a [.LtE, .Lt] [b, c] pos) ρ (decide (i ≤ j) && decide (j < k)) := jt_chain (g := gLe) (g' := gLt) op_le op_lt ha hb (fun _ => hc) hm
theorem jt_ltle (ha : JE X la a ρ (.int i)) (hb : JE X lb b ρ (.int j)) (hc : JE X lc c ρ (.int k)) (hm : lastMarks [.Lt, .LtE] [b, c] = false := by exact lm_ns rfl) : JT X (.Compare a [.Lt, .LtE] [b, c] pos) ρ (decide (i < j) && decide (j ≤ k)) := jt_chain (g := gLt) (g' := gLe) op_lt op_le ha hb (fun _ => hc) hm
theorem jt_lele (ha : JE X la a ρ (.int i)) (hb : JE X lb b ρ (.int j)) (hc : JE X lc c ρ (.int k)) (hm : lastMarks [.LtE, .LtE] [b, c] = false := by exact lm_ns rfl) : JT X (.Compare a [.LtE, .LtE] [b, c] pos) ρ (decide (i ≤ j) && decide (j ≤ k)) := jt_chain (g := gLe) (g' := gLe) op_le op_le ha hb (fun _ => hc) hm

/-! ### tests -/
theorem jt_v {v : Bool} (h : JE X l e ρ (.bl v)) (he : ∀ whole, isTrue e X.env whole = (do let v ← whole; standAt e.pos; holding [v] (truthy v)) := by exact it_ns rfl) : JT X e ρ v :=
  JT.of (pt_val pe_w he) fun T σ Q F q => h T σ _ F fun w T' g r => by
    cases r
    exact ⟨v, rfl, q T' g⟩
theorem jt_not {v : Bool} (h : JT X a ρ v) : JT X (.UnaryOp .Not a pos) ρ (!v) := JT.of (pt_not pt_w) fun T σ Q F q => h T σ _ F q
theorem jw_and1 {v : Bool} (h : JT X a ρ v) : JW X (.BoolOp .And [a] pos) ρ v := JW.of (pw_and1 pt_w) fun T σ Q F q => h T σ _ F q
theorem jw_or1 {v : Bool} (h : JT X a ρ v) : JW X (.BoolOp .Or [a] pos) ρ v := JW.of (pw_or1 pt_w) fun T σ Q F q => h T σ _ F q
theorem jw_and {v u : Bool} (h : JT X a ρ v) (h2 : v = true → JW X (.BoolOp .And (b :: es) pos) ρ u) : JW X (.BoolOp .And (a :: b :: es) pos) ρ (v && u) :=
  JW.of (pw_and pt_w pw_w) fun T σ Q F q => h T σ _ F fun T1 g1 => by
    cases v with
    | false => exact iteF (q T1 g1)
    | true => exact iteT (h2 rfl T1 σ _ (F.grow g1) fun T2 g2 => q T2 (g1.trans g2))
theorem jw_or {v u : Bool} (h : JT X a ρ v) (h2 : v = false → JW X (.BoolOp .Or (b :: es) pos) ρ u) : JW X (.BoolOp .Or (a :: b :: es) pos) ρ (v || u) :=
  JW.of (pw_or pt_w pw_w) fun T σ Q F q => h T σ _ F fun T1 g1 => by
    cases v with
    | true => exact iteT (q T1 g1)
    | false => exact iteF (h2 rfl T1 σ _ (F.grow g1) fun T2 g2 => q T2 (g1.trans g2))
/-- as values -/
theorem je_one {op : BoolOp} (h : JE X l a ρ d) : JE X l (.BoolOp op [a] pos) ρ d := JE.of (pe_one pe_w) fun T σ Q F q => h T σ _ F q
theorem je_and {v u : Bool} (h : JE X la a ρ (.bl v)) (h2 : v = true → JE X .frs (.BoolOp .And (b :: es) pos) ρ (.bl u)) : JE X .frs (.BoolOp .And (a :: b :: es) pos) ρ (.bl (v && u)) :=
  JE.of (pe_and pe_w pe_w) fun T σ Q F q => h T σ _ F fun w T1 g1 r => by
    cases r
    refine ⟨v, rfl, ?_⟩
    cases v with
    | false => exact iteF (q _ T1 g1 (.bl false))
    | true => exact iteT (h2 rfl T1 σ _ (F.grow g1) fun w T2 g2 r2 => q w T2 (g1.trans g2) r2)
theorem je_or {v u : Bool} (h : JE X la a ρ (.bl v)) (h2 : v = false → JE X .frs (.BoolOp .Or (b :: es) pos) ρ (.bl u)) : JE X .frs (.BoolOp .Or (a :: b :: es) pos) ρ (.bl (v || u)) :=
  JE.of (pe_or pe_w pe_w) fun T σ Q F q => h T σ _ F fun w T1 g1 r => by
    cases r
    refine ⟨v, rfl, ?_⟩
    cases v with
    | true => exact iteT (q _ T1 g1 (.bl true))
    | false => exact iteF (h2 rfl T1 σ _ (F.grow g1) fun w T2 g2 r2 => q w T2 (g1.trans g2) r2)
theorem je_not {v : Bool} (h : JE X la a ρ (.bl v)) : JE X .frs (.UnaryOp .Not a pos) ρ (.bl (!v)) :=
  JE.of (pe_not pe_w) fun T σ Q F q => h T σ _ F fun w T1 g1 r => by
    cases r
    exact ⟨v, rfl, q _ T1 g1 (.bl _)⟩
theorem je_if {v : Bool} (h : JT X c ρ v) (h1 : v = true → JE X l a ρ d1) (h2 : v = false → JE X l b ρ d2) : JE X l (.IfExp c a b pos) ρ (if v = true then d1 else d2) :=
  JE.of (pe_ifExp pt_w pe_w pe_w) fun T σ Q F q => h T σ _ F fun T1 g1 => by
    cases v with
    | true => exact iteT (h1 rfl T1 σ _ (F.grow g1) fun w T2 g2 r2 => q w T2 (g1.trans g2) r2)
    | false => exact iteF (h2 rfl T1 σ _ (F.grow g1) fun w T2 g2 r2 => q w T2 (g1.trans g2) r2)
theorem je_ifI {v : Bool} (h : JT X c ρ v) (h1 : v = true → JE X la a ρ (.int i)) (h2 : v = false → JE X lb b ρ (.int j)) : JE X .frs (.IfExp c a b pos) ρ (.int (if v = true then i else j)) := by
  have z := je_if (pos := pos) h (fun t => (h1 t).sc (l' := .frs) rfl) (fun t => (h2 t).sc (l' := .frs) rfl)
  cases v <;> exact z

/-! ### arguments, displays -/
theorem ja_nil : JA X l [] ρ [] := JA.of pa_nil fun T σ Q F q => q _ T (Grow.refl F.ok) .nil
theorem ja_cons (h : JE X la e ρ d) (hr : JA X l es ρ ds) (z : Lv.le la l = true := by first | rfl | exact Lv.le_full _) (hs : starEach (e :: es) X.env = (false, eval e X.env) :: starEach es X.env := by exact star_c rfl) : JA X l (e :: es) ρ (d :: ds) :=
  JA.of (pa_cons pe_w pa_w hs) fun T σ Q F q => h T σ _ F fun v T1 g1 r1 => hr T1 σ _ (F.grow g1) fun vs T2 g2 r2 => q _ T2 (g1.trans g2) (.cons ((r1.mono (g1.ok.le z)).mono (g2.at l)) r2)
theorem small_of {n : Nat} (h : n ≤ 100000) : n ≤ sizeLine := Nat.le_trans h (by decide)
theorem small_lt {n : Nat} (h : n < 100000) : n < sizeLine := Nat.lt_of_lt_of_le h (by decide)
theorem jo_lst (h : JA X l es ρ ds) (z : Lv.le l .imm = true := by rfl) (hz : ds.length ≤ 100000 := by first | decide | exact of_decide_eq_true rfl) : JO X l (.List es pos) ρ ds :=
  JO.of (pe_lst pa_w) fun T σ Q F q => h T σ _ F fun vs T1 g1 r1 => ⟨by rw [r1.length]; exact small_of hz, fun p hp =>
    q p vs (T1.put p _) (g1.trans (Grow.put g1.ok hp)) (Same.free g1.ex hp) (g1.ok.i_none hp) upd_same (by
      cases l with
      | full => cases z
      | imm => exact r1
      | frs => exact r1)⟩
theorem joi_lst (h : JA X l es ρ (ns.map D.int)) (hz : ns.length ≤ 100000 := by first | decide | exact of_decide_eq_true rfl) : JOI X (.List es pos) ρ ns :=
  JOI.of (pe_lst pa_w) fun T σ Q F q => h T σ _ F fun vs T1 g1 r1 => by
    have e := r1.of_il
    subst e
    exact ⟨by rw [List.length_map]; exact small_of hz, fun p hp => q p (T1.put p _) (g1.trans (Grow.put g1.ok hp)) (Same.free g1.ex hp) (g1.ok.i_none hp) upd_same⟩
theorem joi_nil : JOI X (.List [] pos) ρ [] := joi_lst (l := .frs) (ns := []) ja_nil
theorem je_tup (h : JA X l es ρ ds) (z : Lv.le l .imm = true := by rfl) (hz : ds.length ≤ 100000 := by first | decide | exact of_decide_eq_true rfl) : JE X l (.Tuple es kt pos) ρ (.tup ds) :=
  JE.of (pe_tup pa_w) fun T σ Q F q => h T σ _ F fun vs T1 g1 r1 => ⟨by rw [r1.length]; exact small_of hz, fun p hp => by
    have G := g1.trans (Grow.put (x := .tup vs) g1.ok hp)
    cases l with
    | full => cases z
    | imm => exact q _ ((T1.put p _).fixI p _) (G.fixI (Same.free g1.ex hp) (g1.ok.i_none hp) upd_same) (.tup upd_same (r1.mono (same_new (g1.ok.i_none hp))))
    | frs => exact q _ ((T1.put p _).fix p _) (G.fix (Same.free g1.ex hp) (g1.ok.i_none hp) upd_same) (.tup upd_same (r1.mono (same_new (g1.ok.n_none hp))))⟩
end
end Lf

set_option Elab.async false
set_option linter.all false
set_option maxRecDepth 100000
set_option maxHeartbeats 2000000
set_option autoImplicit false
namespace Lf
open PySem L2
/-! ### items -/
/-- the item at i, Python's way -/
def gI (ns : List Int) (i : Int) : Int := if 0 ≤ i then ns.getD i.toNat 0 else ns.getD (i + ns.length).toNat 0
def gD (ds : List D) (i : Int) : D := if 0 ≤ i then ds.getD i.toNat .non else ds.getD (i + ds.length).toNat .non
def inR (n : Nat) (i : Int) : Prop := -(n : Int) ≤ i ∧ i < n
theorem atI_some {α : Type} {xs : List α} {i : Int} (h : inR xs.length i) : ∃ j, j < xs.length ∧ atI xs i = xs[j]? ∧ ((0 ≤ i ∧ j = i.toNat) ∨ (i < 0 ∧ j = (i + xs.length).toNat)) := by
  obtain ⟨h1, h2⟩ := h
  unfold atI ixN
  by_cases h0 : 0 ≤ i
  · rw [if_pos h0, if_pos h2]
    exact ⟨i.toNat, by omega, rfl, .inl ⟨h0, rfl⟩⟩
  · rw [if_neg h0, if_pos h1]
    exact ⟨(i + xs.length).toNat, by omega, rfl, .inr ⟨by omega, rfl⟩⟩
theorem atI_ints {ns : List Int} {i : Int} (h : inR ns.length i) : atI (ns.map V.int) i = some (.int (gI ns i)) := by
  obtain ⟨j, hj, e, q⟩ := atI_some (xs := ns.map V.int) (i := i) (by rw [List.length_map]; exact h)
  rw [List.length_map] at hj q
  rw [e, List.getElem?_map, List.getElem?_eq_getElem hj]
  unfold gI
  rcases q with ⟨h0, rfl⟩ | ⟨h0, rfl⟩
  · rw [if_pos h0, List.getD_eq_getElem?_getD, List.getElem?_eq_getElem hj]
    rfl
  · rw [if_neg (by omega), List.getD_eq_getElem?_getD, List.getElem?_eq_getElem hj]
    rfl
theorem atI_all {K : PySem.W.Frag} {H : Hp} {vs : List V} {ds : List D} (r : RpAll K H vs ds) {i : Int} (h : inR ds.length i) : ∃ v, atI vs i = some v ∧ Rp K H v (gD ds i) := by
  obtain ⟨j, hj, e, q⟩ := atI_some (xs := vs) (i := i) (by rw [r.length]; exact h)
  rw [r.length] at hj q
  obtain ⟨v, h1, h2⟩ := r.get (i := j) (d := ds[j]) (List.getElem?_eq_getElem hj)
  refine ⟨v, e.trans h1, ?_⟩
  have : gD ds i = ds[j] := by
    unfold gD
    rcases q with ⟨h0, rfl⟩ | ⟨h0, rfl⟩
    · rw [if_pos h0, List.getD_eq_getElem?_getD, List.getElem?_eq_getElem hj]
      rfl
    · rw [if_neg (by omega), List.getD_eq_getElem?_getD, List.getElem?_eq_getElem hj]
      rfl
  rw [this]
  exact h2
/-- a part of a list -/
def cutL {α : Type} (xs : List α) (lo hi : Option Int) : List α := (xs.drop (HT.sIx xs.length 0 lo)).take (HT.sIx xs.length xs.length hi - HT.sIx xs.length 0 lo)
theorem cutV_ints (ns : List Int) (lo hi : Option Int) : cutV (ns.map V.int) lo hi = (cutL ns lo hi).map V.int := by
  unfold cutV cutL
  rw [List.length_map, List.map_take, List.map_drop]
theorem cutV_all {K : PySem.W.Frag} {H : Hp} {vs : List V} {ds : List D} (r : RpAll K H vs ds) (lo hi : Option Int) : RpAll K H (cutV vs lo hi) (cutL ds lo hi) := by
  unfold cutV cutL
  rw [r.length]
  exact (r.drop _).take _
theorem cutL_to {α : Type} (xs : List α) {k : Int} (h : 0 ≤ k) : cutL xs none (some k) = xs.take k.toNat := by
  unfold cutL HT.sIx
  simp only [List.drop_zero, Nat.sub_zero]
  rw [if_neg (by omega)]
  exact List.take_eq_take_iff.mpr (by omega)
theorem cutL_from {α : Type} (xs : List α) {k : Int} (h : 0 ≤ k) : cutL xs (some k) none = xs.drop k.toNat := by
  unfold cutL HT.sIx
  simp only
  rw [if_neg (by omega)]
  have e : xs.drop (min k.toNat xs.length) = xs.drop k.toNat := by
    by_cases q : k.toNat ≤ xs.length
    · rw [Nat.min_eq_left q]
    · rw [Nat.min_eq_right (by omega), List.drop_eq_nil_of_le (Nat.le_refl _), List.drop_eq_nil_of_le (by omega)]
  rw [e]
  exact List.take_of_length_le (by rw [List.length_drop]; omega)
theorem cutL_mid {α : Type} (xs : List α) {i k : Int} (h : 0 ≤ i) (h' : 0 ≤ k) : cutL xs (some i) (some k) = (xs.drop i.toNat).take (k.toNat - i.toNat) := by
  unfold cutL HT.sIx
  simp only
  rw [if_neg (by omega), if_neg (by omega)]
  have e : xs.drop (min i.toNat xs.length) = xs.drop i.toNat := by
    by_cases q : i.toNat ≤ xs.length
    · rw [Nat.min_eq_left q]
    · rw [Nat.min_eq_right (by omega), List.drop_eq_nil_of_le (Nat.le_refl _), List.drop_eq_nil_of_le (by omega)]
  rw [e]
  exact List.take_eq_take_iff.mpr (by rw [List.length_drop]; omega)
theorem cutL_butlast {α : Type} (xs : List α) : cutL xs none (some (-1)) = xs.dropLast := by
  unfold cutL HT.sIx
  simp only [List.drop_zero, Nat.sub_zero]
  rw [if_pos (by decide), List.dropLast_eq_take]
  exact List.take_eq_take_iff.mpr (by omega)
theorem cutL_length {α : Type} (xs : List α) (lo hi : Option Int) : (cutL xs lo hi).length ≤ xs.length := by
  unfold cutL
  rw [List.length_take, List.length_drop]
  omega

section
variable {X : Cx} {e a b c : Expr} {es : List Expr} {ρ : PEnv} {d d1 d2 d3 : D} {l la lb lc : Lv} {pos p p2 : Pos} {i j k : Int} {ns ms : List Int} {ds : List D} {kt : Nat} {x : Str}

theorem je_ixI (ha : JE X la a ρ (.il ns)) (hb : JE X lb b ρ (.int i)) (h : inR ns.length i) (hs : PlainIx b := by exact px_ns rfl) : JE X .frs (.Subscript a b pos) ρ (.int (gI ns i)) :=
  JE.of (pe_ix ix_list pe_w pe_w hs) fun T σ Q F q => ha T σ _ F fun v T1 g1 r1 => hb T1 σ _ (F.grow g1) fun u T2 g2 r2 => by
    have r1' := (r1.mono g1.ok.full).mono g2.ex
    cases r1' with
    | il h1 =>
      have h1 := SqL.of (K := X.K) h1
      cases r2
      exact ⟨_, _, i, _, rfl, rfl, h1, atI_ints h, q _ T2 (g1.trans g2) (.int _)⟩
theorem je_ixD (ha : JE X la a ρ (.lst ds)) (hb : JE X lb b ρ (.int i)) (h : inR ds.length i) (hq : gD ds i = d := by rfl) (hs : PlainIx b := by exact px_ns rfl) : JE X la (.Subscript a b pos) ρ d := by
  subst hq
  exact JE.of (pe_ix ix_list pe_w pe_w hs) fun T σ Q F q => ha T σ _ F fun v T1 g1 r1 => hb T1 σ _ (F.grow g1) fun u T2 g2 r2 => by
    have r1' := r1.mono (g2.at la)
    cases r1' with
    | lst h1 rr =>
      have h1 := SqL.of (K := X.K) h1
      cases r2
      obtain ⟨w, e1, e2⟩ := atI_all rr h
      exact ⟨_, _, i, w, rfl, rfl, (g2.ok.full (a := la)).seq h1, e1, q _ T2 (g1.trans g2) e2⟩
theorem je_ixT (ha : JE X la a ρ (.tup ds)) (hb : JE X lb b ρ (.int i)) (h : inR ds.length i) (hq : gD ds i = d := by rfl) (hs : PlainIx b := by exact px_ns rfl) : JE X la (.Subscript a b pos) ρ d := by
  subst hq
  exact JE.of (pe_ix ix_tup pe_w pe_w hs) fun T σ Q F q => ha T σ _ F fun v T1 g1 r1 => hb T1 σ _ (F.grow g1) fun u T2 g2 r2 => by
    have r1' := r1.mono (g2.at la)
    cases r1' with
    | tup h1 rr =>
      have h1 := SqT.of (K := X.K) h1
      cases r2
      obtain ⟨w, e1, e2⟩ := atI_all rr h
      exact ⟨_, _, i, w, rfl, rfl, seqT (g2.ok.full (a := la)) h1, e1, q _ T2 (g1.trans g2) e2⟩
/-- an item of an own list -/
theorem je_ixO (n : Nat) (hr : ρ[n]? = some (some (.own l ds))) (hb : JE X lb b ρ (.int i)) (h : inR ds.length i) (hq : gD ds i = d := by rfl) (hN : X.N[n]? = some x := by rfl) (hv : Vis X.env.scope x := by first | exact Or.inl rfl | exact Or.inr (Or.inl rfl) | exact Or.inr (Or.inr rfl))
    (hd : (x == ("__debug__" : Str)) = false := by decide) (hcd : (x == ("__classdict__" : Str)) = false := by decide) (hs : PlainIx b := by exact px_ns rfl) : JE X l (.Subscript (.Name x p) b pos) ρ d := by
  subst hq
  exact JE.of (pe_ix ix_list (pe_var hN hv hd hcd) pe_w hs) fun T σ Q F q => by
    obtain ⟨v, h1, hl, a, vs, rfl, h2, h3, r⟩ := F.val n _ hr
    refine ⟨_, h1, hb T σ _ F fun u T2 g2 r2 => ?_⟩
    cases r2
    obtain ⟨w, e1, e2⟩ := atI_all (r.mono (g2.at l)) h
    exact ⟨_, _, i, w, rfl, rfl, SqL.of (g2.ex _ _ h2), e1, q _ T2 g2 e2⟩

/-! ### slices -/
def wO (X : Cx) (e : Option Expr) : TO := fun σ H Q => ∀ pins s, Inv X pins σ H s → wpAny (model X.prog X.w) X.A (evalPart e X.env) (fun u s' => ∃ o H', Inv X pins σ H' s' ∧ IsPart u o ∧ Q o H') X.xe s
theorem po_w {eo : Option Expr} : PO X eo (wO X eo) := ⟨fun pins s σ H Q I h => h pins s I⟩
def JP (X : Cx) (e : Option Expr) (ρ : PEnv) (o : Option Int) : Prop :=
  ∀ (T : W3) (σ : L2.St) (Q : Option Int → Hp → Prop), Fr X.K T σ ρ → (∀ T', Grow T T' → Q o T'.h) → wO X e σ T.h Q
theorem jp_none : JP X none ρ none := fun T σ Q F q pins s I => po_none.run pins s σ T.h Q I (q T (Grow.refl F.ok))
theorem jp_some (h : JE X l e ρ (.int i)) : JP X (some e) ρ (some i) := fun T σ Q F q pins s I => (po_some pe_w).run pins s σ T.h Q I (h T σ _ F fun v T' g r => by
  cases r
  exact ⟨i, rfl, q T' g⟩)
variable {lo hi : Option Expr} {ol oh : Option Int}
theorem joi_cut (ha : JE X la a ρ (.il ns)) (hl : JP X lo ρ ol) (hh : JP X hi ρ oh) : JOI X (.Subscript a (.Slice lo hi none p2) pos) ρ (cutL ns ol oh) :=
  JOI.of (pe_slice sl_list pe_w po_w po_w) fun T σ Q F q => ha T σ _ F fun v T1 g1 r1 => hl T1 σ _ (F.grow g1) fun T2 g2 => hh T2 σ _ ((F.grow g1).grow g2) fun T3 g3 => by
    have r1' := ((r1.mono g1.ok.full).mono g2.ex).mono g3.ex
    cases r1' with
    | il h1 =>
      have h1 := SqL.of (K := X.K) h1
      have G := (g1.trans g2).trans g3
      refine ⟨_, _, rfl, h1, fun p hp => ?_⟩
      rw [cutV_ints]
      exact q p (T3.put p _) (G.trans (Grow.put G.ok hp)) (Same.free G.ex hp) (G.ok.i_none hp) upd_same
theorem jo_cut (ha : JE X la a ρ (.lst ds)) (hl : JP X lo ρ ol) (hh : JP X hi ρ oh) (z : Lv.le la .imm = true := by rfl) : JO X la (.Subscript a (.Slice lo hi none p2) pos) ρ (cutL ds ol oh) :=
  JO.of (pe_slice sl_list pe_w po_w po_w) fun T σ Q F q => ha T σ _ F fun v T1 g1 r1 => hl T1 σ _ (F.grow g1) fun T2 g2 => hh T2 σ _ ((F.grow g1).grow g2) fun T3 g3 => by
    have G := (g1.trans g2).trans g3
    have r1' := r1.mono ((g2.trans g3).at la)
    cases r1' with
    | lst h1 rr =>
      have h1 := SqL.of (K := X.K) h1
      refine ⟨_, _, rfl, (G.ok.full (a := la)).seq h1, fun p hp => ?_⟩
      refine q p _ (T3.put p _) (G.trans (Grow.put G.ok hp)) (Same.free G.ex hp) (G.ok.i_none hp) upd_same ?_
      cases la with
      | full => cases z
      | imm => exact cutV_all rr _ _
      | frs => exact cutV_all rr _ _
theorem joi_rev {k : Nat} {p1 p3 : Pos} (ha : JE X la a ρ (.il ns)) : JOI X (.Subscript a (.Slice none none (some (.UnaryOp .USub (.Constant (.int 1) k p1) p2)) p3) pos) ρ ns.reverse :=
  JOI.of (pe_revL pe_w) fun T σ Q F q => ha T σ _ F fun v T1 g1 r1 => by
    have r1' := r1.mono g1.ok.full
    cases r1' with
    | il h1 =>
      have h1 := SqL.of (K := X.K) h1
      refine ⟨_, _, rfl, h1, fun p hp => ?_⟩
      rw [← List.map_reverse]
      exact q p (T1.put p _) (g1.trans (Grow.put g1.ok hp)) (Same.free g1.ex hp) (g1.ok.i_none hp) upd_same

/-! ### lists put together -/
theorem plain_get {h : Heap} {q : Addr} {its : Array Value} (x : PlainL h q its) : ∃ n sl dd, h.get? q = some { cls := .type "list", dict := dd, data := .seq its n, slots := sl } := by
  obtain ⟨o, n, ho, hc, hdd, hd⟩ := x
  obtain ⟨c, dd, dt, sl⟩ := o
  simp only at hc hdd hd
  subst hc hdd hd
  exact ⟨n, sl, none, ho⟩
end
end Lf

set_option Elab.async false
set_option linter.all false
set_option maxRecDepth 100000
set_option maxHeartbeats 2000000
set_option autoImplicit false
namespace L2
open PySem PySem.Spec PyProof.Rows
/-- list + list, wherever they are read -/
def rCatS (K : PySem.W.Frag) : R2 := fun x y H Q => ∃ l b xs zs, x = .ref l ∧ y = .ref b ∧ SqL K H l xs ∧ SqL K H b zs ∧ xs.length + zs.length ≤ sizeLine ∧ ∀ p, H p = none → Q (.ref p) (upd H p (.lst (xs ++ zs)))
theorem op_catS {X : Cx} : OpR X (binaryOp .Add) (rCatS X.K) := by
  intro pins s σ H x y v u Q I rx ry h
  obtain ⟨l, b, xs, zs, rfl, rfl, hH, hB, hz, q⟩ := h
  cases rx
  cases ry
  obtain ⟨its, r, p1, _⟩ := I.list hH
  obtain ⟨its2, r2, p2, _⟩ := I.list hB
  obtain ⟨n, sl, dd, ho⟩ := Lf.plain_get p1
  obtain ⟨n2, sl2, dd2, ho2⟩ := Lf.plain_get p2
  have e1 := r.length
  have e2 := r2.length
  refine concat_meets ⟨_, ho, rfl⟩ ⟨_, ho2, rfl⟩ noFill_list_add seq_list_add PySem.F.slot_list_add PySem.F.entry_list_add (PySem.F.args_list_add_2 _ _) (list_addW l b its.toArray its2.toArray n n2 dd dd2 sl sl2 (by simp; omega)) ⟨ho, ho2, ?_⟩
  have ea : its.toArray ++ its2.toArray = (its ++ its2).toArray := by simp
  rw [ea]
  exact ⟨.ref _, _, I.lnew (t' := s.toks) (r.append r2) (by rw [List.length_append]; omega), rfl, q _ I.fresh⟩
end L2
namespace Lf
open PySem L2
section
variable {X : Cx} {e a b c : Expr} {es : List Expr} {ρ : PEnv} {d d1 d2 d3 : D} {l la lb lc : Lv} {pos p p2 : Pos} {i j k : Int} {ns ms : List Int} {ds fs : List D} {kt : Nat} {x : Str}
theorem joi_cat (ha : JE X la a ρ (.il ns)) (hb : JE X lb b ρ (.il ms)) (hz : ns.length + ms.length ≤ 100000) : JOI X (.BinOp a .Add b pos) ρ (ns ++ ms) :=
  JOI.of (pe_op op_catS pe_w pe_w) fun T σ Q F q => ha T σ _ F fun v T1 g1 r1 => hb T1 σ _ (F.grow g1) fun u T2 g2 r2 => by
    have r1' := (r1.mono g1.ok.full).mono g2.ex
    have r2' := r2.mono g2.ok.full
    cases r1' with
    | il h1 =>
      have h1 := SqL.of (K := X.K) h1
      cases r2' with
      | il h2 =>
        have h2 := SqL.of (K := X.K) h2
        refine ⟨_, _, _, _, rfl, rfl, h1, h2, by rw [List.length_map, List.length_map]; exact small_of hz, fun p hp => ?_⟩
        rw [← List.map_append]
        exact q p (T2.put p _) ((g1.trans g2).trans (Grow.put g2.ok hp)) (Same.free (g1.trans g2).ex hp) (g2.ok.i_none hp) upd_same
theorem jo_cat (ha : JE X la a ρ (.lst ds)) (hb : JE X lb b ρ (.lst fs)) (z1 : Lv.le la l = true := by rfl) (z2 : Lv.le lb l = true := by rfl) (z : Lv.le l .imm = true := by rfl) (hz : ds.length + fs.length ≤ 100000 := by first | decide | exact of_decide_eq_true rfl) : JO X l (.BinOp a .Add b pos) ρ (ds ++ fs) :=
  JO.of (pe_op op_catS pe_w pe_w) fun T σ Q F q => ha T σ _ F fun v T1 g1 r1 => hb T1 σ _ (F.grow g1) fun u T2 g2 r2 => by
    have r1' := (r1.mono (g1.ok.le z1)).mono (g2.at l)
    have r2' := r2.mono (g2.ok.le z2)
    cases r1' with
    | lst h1 rr =>
      have h1 := SqL.of (K := X.K) h1
      cases r2' with
      | lst h2 rr2 =>
        have h2 := SqL.of (K := X.K) h2
        refine ⟨_, _, _, _, rfl, rfl, g2.ok.full.seq h1, g2.ok.full.seq h2, by rw [rr.length, rr2.length]; exact small_of hz, fun p hp => ?_⟩
        refine q p _ (T2.put p _) ((g1.trans g2).trans (Grow.put g2.ok hp)) (Same.free (g1.trans g2).ex hp) (g2.ok.i_none hp) upd_same ?_
        cases l with
        | full => cases z
        | imm => exact rr.append rr2
        | frs => exact rr.append rr2

/-! ### built-in calls -/
theorem je_callB {id : String} {r : List V → Hp → VK → Prop} (hc : CallR X (.builtin id) r) (hm : X.mg x = none) (hv : bootBuiltins x = some (.builtin id)) (ha : JA X .full (e :: es) ρ ds)
    (hr : ∀ (T : W3) vs (Q : VK), Ok T → RpAll X.K T.h vs ds → (∀ v T', Grow T T' → Rp X.K (T'.at l) v d → Q v T'.h) → r vs T.h Q)
    (hg : Gl X x := by rfl) (hn : x ≠ "__name__" := by decide) (hdb : (x == ("__debug__" : Str)) = false := by decide)
    (he : starEach (e :: es) X.env = (false, eval e X.env) :: starEach es X.env := by exact star_c rfl) (hpl : (backTo pos (starEach es X.env)).any (·.1) = false := by exact back_ns rfl) : JE X l (.Call (.Name x p) (e :: es) [] pos) ρ d :=
  JE.of (pe_callB hc hg hm hv pa_w hn hdb he hpl) fun T σ Q F q => ha T σ _ F fun vs T1 g1 r1 => hr T1 vs Q g1.ok r1 fun v T2 g2 r2 => q v T2 (g1.trans g2) r2
theorem je_len (hm : X.mg "len" = none) (ha : JE X la e ρ (.il ns)) (hg : Gl X "len" := by rfl) (he : starEach [e] X.env = (false, eval e X.env) :: starEach [] X.env := by exact star_c rfl) (hpl : (backTo pos (starEach [] X.env)).any (·.1) = false := by exact back_ns rfl) :
    JE X .frs (.Call (.Name "len" p) [e] [] pos) ρ (.int ns.length) :=
  je_callB call_len_seq hm PySem.boot_len (ja_cons ha ja_nil (Lv.le_full _) he) (fun T vs Q o r q => by
    cases r with
    | cons r1 r2 =>
      cases r2
      cases r1 with
      | il h =>
        have h := SqL.of (K := X.K) h
        refine ⟨_, _, rfl, .inl h, ?_⟩
        rw [List.length_map]
        exact q _ T (Grow.refl o) (.int _)) hg (by decide) (by decide) he hpl
theorem je_lenD (hm : X.mg "len" = none) (ha : JE X la e ρ (.lst ds)) (hg : Gl X "len" := by rfl) (he : starEach [e] X.env = (false, eval e X.env) :: starEach [] X.env := by exact star_c rfl) (hpl : (backTo pos (starEach [] X.env)).any (·.1) = false := by exact back_ns rfl) :
    JE X .frs (.Call (.Name "len" p) [e] [] pos) ρ (.int ds.length) :=
  je_callB call_len_seq hm PySem.boot_len (ja_cons ha ja_nil (Lv.le_full _) he) (fun T vs Q o r q => by
    cases r with
    | cons r1 r2 =>
      cases r2
      cases r1 with
      | lst h rr =>
        have h := SqL.of (K := X.K) h
        refine ⟨_, _, rfl, .inl h, ?_⟩
        rw [rr.length]
        exact q _ T (Grow.refl o) (.int _)) hg (by decide) (by decide) he hpl
theorem je_lenT (hm : X.mg "len" = none) (ha : JE X la e ρ (.tup ds)) (hg : Gl X "len" := by rfl) (he : starEach [e] X.env = (false, eval e X.env) :: starEach [] X.env := by exact star_c rfl) (hpl : (backTo pos (starEach [] X.env)).any (·.1) = false := by exact back_ns rfl) :
    JE X .frs (.Call (.Name "len" p) [e] [] pos) ρ (.int ds.length) :=
  je_callB call_len_seq hm PySem.boot_len (ja_cons ha ja_nil (Lv.le_full _) he) (fun T vs Q o r q => by
    cases r with
    | cons r1 r2 =>
      cases r2
      cases r1 with
      | tup h rr =>
        have h := SqT.of (K := X.K) h
        refine ⟨_, _, rfl, .inr h, ?_⟩
        rw [rr.length]
        exact q _ T (Grow.refl o) (.int _)) hg (by decide) (by decide) he hpl
theorem je_max (hm : X.mg "max" = none) (ha : JE X la a ρ (.int i)) (hb : JE X lb b ρ (.int j)) (hc : X.calm = true := by rfl) (hg : Gl X "max" := by rfl) (hsa : starEach [a, b] X.env = (false, eval a X.env) :: starEach [b] X.env := by exact star_c rfl) (hs : starEach [b] X.env = (false, eval b X.env) :: starEach [] X.env := by exact star_c rfl)
    (hpl : (backTo pos (starEach [b] X.env)).any (·.1) = false := by exact back_ns rfl) : JE X .frs (.Call (.Name "max" p) [a, b] [] pos) ρ (.int (if j > i then j else i)) :=
  je_callB (call_max2 hc) hm (by decide +kernel) (ja_cons ha (ja_cons hb ja_nil (Lv.le_full _) hs) (Lv.le_full _) hsa) (fun T vs Q o r q => by
    cases r with
    | cons r1 r2 =>
      cases r2 with
      | cons r2 r3 =>
        cases r3
        cases r1
        cases r2
        exact ⟨i, j, rfl, q _ T (Grow.refl o) (.int _)⟩) hg (by decide) (by decide) hsa hpl
theorem je_sum (hm : X.mg "sum" = none) (ha : JE X la e ρ (.il ns)) (hc : X.calm = true := by rfl) (hg : Gl X "sum" := by rfl) (he : starEach [e] X.env = (false, eval e X.env) :: starEach [] X.env := by exact star_c rfl) (hpl : (backTo pos (starEach [] X.env)).any (·.1) = false := by exact back_ns rfl) :
    JE X .frs (.Call (.Name "sum" p) [e] [] pos) ρ (.int ns.sum) :=
  je_callB (cr_sum hc) hm (by decide +kernel) (ja_cons ha ja_nil (Lv.le_full _) he) (fun T vs Q o r q => by
    cases r with
    | cons r1 r2 =>
      cases r2
      cases r1 with
      | il h =>
        have h := SqL.of (K := X.K) h
        exact ⟨_, _, rfl, h, q _ T (Grow.refl o) (.int _)⟩) hg (by decide) (by decide) he hpl
/-- the least of a list that isn't empty -/
def IsMin (ns : List Int) (m : Int) : Prop := m ∈ ns ∧ ∀ y, y ∈ ns → m ≤ y
def minI : List Int → Int
  | [] => 0
  | [n] => n
  | n :: r => min n (minI r)
theorem minI_is : ∀ {ns : List Int}, 0 < ns.length → IsMin ns (minI ns)
  | [], h => absurd h (by decide)
  | [n], _ => ⟨by simp [minI], fun y hy => by simp at hy; simp [minI, hy]⟩
  | n :: m :: r, _ => by
    have ih := minI_is (ns := m :: r) (by simp)
    obtain ⟨h1, h2⟩ := ih
    constructor
    · show min n (minI (m :: r)) ∈ _
      by_cases q : n ≤ minI (m :: r)
      · rw [Int.min_eq_left q]; exact List.mem_cons_self
      · rw [Int.min_eq_right (by omega)]; exact List.mem_cons_of_mem _ h1
    · intro y hy
      show min n (minI (m :: r)) ≤ y
      rcases List.mem_cons.mp hy with rfl | hy
      · exact Int.min_le_left _ _
      · have := h2 y hy
        omega
theorem IsMin.eq {ns : List Int} {m m' : Int} (h : IsMin ns m) (h' : IsMin ns m') : m = m' := by
  have h1 := h.2 _ h'.1
  have h2 := h'.2 _ h.1
  omega
theorem je_min (hm : X.mg "min" = none) (ha : JE X la e ρ (.il ns)) (h0 : 0 < ns.length) (hc : X.calm = true := by rfl) (hg : Gl X "min" := by rfl) (he : starEach [e] X.env = (false, eval e X.env) :: starEach [] X.env := by exact star_c rfl) (hpl : (backTo pos (starEach [] X.env)).any (·.1) = false := by exact back_ns rfl) :
    JE X .frs (.Call (.Name "min" p) [e] [] pos) ρ (.int (minI ns)) :=
  je_callB (cr_min hc) hm (by decide +kernel) (ja_cons ha ja_nil (Lv.le_full _) he) (fun T vs Q o r q => by
    cases r with
    | cons r1 r2 =>
      cases r2
      cases r1 with
      | il h =>
        have h := SqL.of (K := X.K) h
        exact ⟨_, _, rfl, h, h0, fun m h1 h2 => by
          have e : m = minI ns := IsMin.eq ⟨h1, h2⟩ (minI_is h0)
          rw [e]
          exact q _ T (Grow.refl o) (.int _)⟩) hg (by decide) (by decide) he hpl
theorem RpAll.of_bl {K : PySem.W.Frag} {H : Hp} : ∀ {vs : List V} {bs : List Bool}, RpAll K H vs (bs.map D.bl) → vs = bs.map V.bl
  | _, [], .nil => rfl
  | _, n :: r, .cons (.bl _) h => by rw [List.map_cons, RpAll.of_bl h]
theorem je_all {bs : List Bool} (hm : X.mg "all" = none) (ha : JE X la e ρ (.lst (bs.map D.bl))) (hc : X.calm = true := by rfl) (hg : Gl X "all" := by rfl) (he : starEach [e] X.env = (false, eval e X.env) :: starEach [] X.env := by exact star_c rfl) (hpl : (backTo pos (starEach [] X.env)).any (·.1) = false := by exact back_ns rfl) :
    JE X .frs (.Call (.Name "all" p) [e] [] pos) ρ (.bl (bs.all id)) :=
  je_callB (cr_all hc) hm (by decide +kernel) (ja_cons ha ja_nil (Lv.le_full _) he) (fun T vs Q o r q => by
    cases r with
    | cons r1 r2 =>
      cases r2
      cases r1 with
      | lst h rr =>
        have h := SqL.of (K := X.K) h
        have e := rr.of_bl
        subst e
        exact ⟨_, _, rfl, h, q _ T (Grow.refl o) (.bl _)⟩) hg (by decide) (by decide) he hpl
theorem je_any {bs : List Bool} (hm : X.mg "any" = none) (ha : JE X la e ρ (.lst (bs.map D.bl))) (hc : X.calm = true := by rfl) (hg : Gl X "any" := by rfl) (he : starEach [e] X.env = (false, eval e X.env) :: starEach [] X.env := by exact star_c rfl) (hpl : (backTo pos (starEach [] X.env)).any (·.1) = false := by exact back_ns rfl) :
    JE X .frs (.Call (.Name "any" p) [e] [] pos) ρ (.bl (bs.any id)) :=
  je_callB (cr_any hc) hm (by decide +kernel) (ja_cons ha ja_nil (Lv.le_full _) he) (fun T vs Q o r q => by
    cases r with
    | cons r1 r2 =>
      cases r2
      cases r1 with
      | lst h rr =>
        have h := SqL.of (K := X.K) h
        have e := rr.of_bl
        subst e
        exact ⟨_, _, rfl, h, q _ T (Grow.refl o) (.bl _)⟩) hg (by decide) (by decide) he hpl
/-- list(x): a new list -/
theorem joi_list (hm : X.mg "list" = none) (ha : JE X la e ρ (.il ns)) (hg : Gl X "list" := by rfl) (he : starEach [e] X.env = (false, eval e X.env) :: starEach [] X.env := by exact star_c rfl) (hpl : (backTo pos (starEach [] X.env)).any (·.1) = false := by exact back_ns rfl) :
    JOI X (.Call (.Name "list" p) [e] [] pos) ρ ns :=
  JOI.of (pe_callTy call_list_of hg hm (by decide +kernel) (pa_cons pe_w pa_nil he) (by decide) (by decide) he hpl) fun T σ Q F q => ha T σ _ F fun v T1 g1 r1 => by
    have r1' := r1.mono g1.ok.full
    cases r1' with
    | il h =>
      have h := SqL.of (K := X.K) h
      exact ⟨_, _, rfl, .inl h, fun p hp => q p (T1.put p _) (g1.trans (Grow.put g1.ok hp)) (Same.free g1.ex hp) (g1.ok.i_none hp) upd_same⟩
theorem jo_list (hm : X.mg "list" = none) (ha : JE X la e ρ (.lst ds)) (z : Lv.le la .imm = true := by rfl) (hg : Gl X "list" := by rfl) (he : starEach [e] X.env = (false, eval e X.env) :: starEach [] X.env := by exact star_c rfl) (hpl : (backTo pos (starEach [] X.env)).any (·.1) = false := by exact back_ns rfl) :
    JO X la (.Call (.Name "list" p) [e] [] pos) ρ ds :=
  JO.of (pe_callTy call_list_of hg hm (by decide +kernel) (pa_cons pe_w pa_nil he) (by decide) (by decide) he hpl) fun T σ Q F q => ha T σ _ F fun v T1 g1 r1 => by
    cases r1 with
    | lst h rr =>
      have h := SqL.of (K := X.K) h
      refine ⟨_, _, rfl, .inl (g1.ok.full.seq h), fun p hp => q p _ (T1.put p _) (g1.trans (Grow.put g1.ok hp)) (Same.free g1.ex hp) (g1.ok.i_none hp) upd_same ?_⟩
      cases la with
      | full => cases z
      | imm => exact rr
      | frs => exact rr
/-- xs.index(x): x is there -/
def ixOf (ns : List Int) (i : Int) : Nat := ns.findIdx (fun y => y == i)
theorem je_index {apos cpos : Pos} (ha : JE X la a ρ (.il ns)) (hb : JE X lb b ρ (.int i)) (hi : i ∈ ns) (hbm : ∀ (to : TE) (ta : TA), PE X a to → PA X [b] ta → PE X (.Call (.Attribute a "index" apos) [b] [] cpos) (tBM X.K "list" (rIndex X.K) to ta) := by
      exact fun to ta ho hx => pe_bm PySem.F.plainAttrs_list PySem.F.slot_list_index PySem.F.type_list_index mt_index ho hx)
    (he : starEach [b] X.env = (false, eval b X.env) :: starEach [] X.env := by exact star_c rfl) : JE X .frs (.Call (.Attribute a "index" apos) [b] [] cpos) ρ (.int (ixOf ns i)) :=
  JE.of (hbm _ _ pe_w (pa_cons pe_w pa_nil he)) fun T σ Q F q => ha T σ _ F fun v T1 g1 r1 => by
    have r1' := r1.mono g1.ok.full
    cases r1' with
    | il h =>
      have h := SqL.of (K := X.K) h
      refine ⟨?_, hb T1 σ _ (F.grow g1) fun u T2 g2 r2 => ?_⟩
      · exact .inl ⟨rfl, _, h⟩
      · cases r2
        have hlt : ixOf ns i < ns.length := List.findIdx_lt_length_of_exists ⟨i, hi, by simp⟩
        have hat : ns[ixOf ns i] = i := by
          have z : (ns[ixOf ns i] == i) = true := List.findIdx_getElem (p := fun y => y == i) (w := hlt)
          exact eq_of_beq z
        refine ⟨_, _, _, ixOf ns i, .int i, rfl, rfl, g2.ex.seq h, rfl, flat_ints ns, ?_, ?_, fun m z' hm hz => ?_, q _ T2 (g1.trans g2) (.int _)⟩
        · rw [List.getElem?_map, List.getElem?_eq_getElem hlt, hat]
          rfl
        · show (i == i) = true
          simp
        · rw [List.getElem?_map] at hz
          have hm' : m < ns.length := Nat.lt_trans hm hlt
          rw [List.getElem?_eq_getElem hm'] at hz
          cases hz
          show (ns[m] == i) = false
          have := List.not_of_lt_findIdx hm
          simpa using this

/-! ### isinstance -/
/-- a value's type, as isinstance asks for it -/
def tyOf (d : D) : Value := match d with
  | .non => .type "NoneType"
  | .bl _ => .type "bool"
  | .int _ => .type "int"
  | .str _ => .type "str"
  | .il _ => .type "list"
  | .scr _ => .type "list"
  | .lst _ => .type "list"
  | .tup _ => .type "tuple"
  | .obj C _ => .ref C
  | .ptr _ => .none
/-- what isinstance asks of an own class -/
structure ClsI (K : PySem.W.Frag) (C : Addr) : Prop where
  cl : Cls K C
  ha : PySem.W.findIn K (.ref C) "__class__" = some (some (.builtin "object.__class__"))
  hn : PySem.W.specialIn K (.builtin "object.__class__") "__get__" = some (some (.builtin "getset_descriptor.__get__"))
  htk : PySem.W.takesIn K (.builtin "object.__class__") = some true
  hm : PySem.W.mroIn K C (.type "object") = some true
theorem sqL_ty {K : PySem.W.Frag} {H : Hp} {a : Addr} {xs : List V} (h : SqL K H a xs) : TyX K H (.ref a) (.type "list") := by
  rcases h with (h | ⟨o, h⟩) | ⟨o, its, n, h, hc, _⟩
  · exact .base (.lst h)
  · exact .base (.frz h)
  · exact .kList h hc
theorem sqT_ty {K : PySem.W.Frag} {H : Hp} {a : Addr} {xs : List V} (h : SqT K H a xs) : TyX K H (.ref a) (.type "tuple") := by
  rcases h with (h | ⟨o, h⟩) | ⟨o, its, n, h, hc, _⟩
  · exact .base (.tup h)
  · exact .fTuple h
  · exact .kTuple h hc
def clsOk (K : PySem.W.Frag) : D → Prop
  | .obj C _ => ClsI K C
  | .ptr _ => False
  | _ => True
theorem Rp.tyx {K : PySem.W.Frag} {H : Hp} {v : V} {d : D} (h : Rp K H v d) (o : clsOk K d) : TyX K H v (tyOf d) := by
  cases h with
  | non => exact .base .non
  | bl b => exact .base (.bl b)
  | int i => exact .base (.int i)
  | str x => exact .base (.str x)
  | il h => exact .base (.lst h)
  | scr h => exact sqL_ty h
  | lst h _ => exact .base (.lst h)
  | tup h _ => exact .base (.tup h)
  | obj h _ => exact .base (.ins h o.cl o.ha o.hn o.htk o.hm)
  | ptr b => exact o.elim
/-- isinstance(e, T), T a built-in class -/
theorem je_isT {T : Str} {n : String} {b : Bool} {pt : Pos} (hm : X.mg "isinstance" = none) (hmT : X.mg T = none) (hT : bootBuiltins T = some (.type n)) (ha : JE X la e ρ d) (hk : PySem.W.kitOne X.K (tyOf d) (.type n) = some b) (ho : clsOk X.K d)
    (hg : Gl X "isinstance" := by rfl) (hgT : Gl X T := by rfl) (hn : T ≠ "__name__" := by decide) (hdb : (T == ("__debug__" : Str)) = false := by decide)
    (h1 : starEach [e, .Name T pt] X.env = (false, eval e X.env) :: starEach [.Name T pt] X.env := by exact star_c rfl) (h2 : starEach [.Name T pt] X.env = (false, eval (.Name T pt) X.env) :: starEach [] X.env := by exact star_c rfl)
    (hpl : (backTo pos (starEach [.Name T pt] X.env)).any (·.1) = false := by exact back_ns rfl) : JE X .frs (.Call (.Name "isinstance" p) [e, .Name T pt] [] pos) ρ (.bl b) :=
  JE.of (pe_callB call_isi hg hm (by decide +kernel) (pa_cons pe_w (pa_cons (pe_bltn (v := .ty n) hgT hmT hT rfl hn hdb) pa_nil h2) h1) (by decide) (by decide) h1 hpl) fun T σ Q F q => ha T σ _ F fun v T1 g1 r1 =>
    ⟨v, .ty n, tyOf d, _, b, rfl, .ty n, (r1.mono g1.ok.full).tyx ho, hk, q _ T1 g1 (.bl b)⟩
/-- isinstance(e, C), C an own class -/
theorem je_isC {T : Str} {C : Addr} {b : Bool} {pt : Pos} (hm : X.mg "isinstance" = none) (hmT : X.mg T = some (.ref C)) (ha : JE X la e ρ d) (hk : PySem.W.kitOne X.K (tyOf d) (.ref C) = some b) (ho : clsOk X.K d)
    (hg : Gl X "isinstance" := by rfl) (hgT : Gl X T := by rfl) (hdb : (T == ("__debug__" : Str)) = false := by decide)
    (h1 : starEach [e, .Name T pt] X.env = (false, eval e X.env) :: starEach [.Name T pt] X.env := by exact star_c rfl) (h2 : starEach [.Name T pt] X.env = (false, eval (.Name T pt) X.env) :: starEach [] X.env := by exact star_c rfl)
    (hpl : (backTo pos (starEach [.Name T pt] X.env)).any (·.1) = false := by exact back_ns rfl) : JE X .frs (.Call (.Name "isinstance" p) [e, .Name T pt] [] pos) ρ (.bl b) :=
  JE.of (pe_callB call_isi hg hm (by decide +kernel) (pa_cons pe_w (pa_cons (pe_glob (v := .ref C) hgT hmT rfl hdb) pa_nil h2) h1) (by decide) (by decide) h1 hpl) fun T σ Q F q => ha T σ _ F fun v T1 g1 r1 =>
    ⟨v, .ref C, tyOf d, _, b, rfl, .own C, (r1.mono g1.ok.full).tyx ho, hk, q _ T1 g1 (.bl b)⟩

/-! ### fields -/
theorem je_fld {C : Addr} {f : Str} {gs : List (Str × D)} (ha : JE X l e ρ (.obj C gs)) (hc : Cls X.K C) (hn : NoAttr X.K C f) (hf : gs.lookup f = some d) (hb : attributeBase e f X.env (eval e X.env) = eval e X.env := by rfl) : JE X l (.Attribute e f pos) ρ d :=
  JE.of (pe_fld pe_w hb) fun T σ Q F q => ha T σ _ F fun v T1 g1 r1 => by
    cases r1 with
    | obj h rr =>
      obtain ⟨w, h1, h2⟩ := rr.look hf
      exact ⟨_, C, _, _, w, rfl, g1.ok.full _ _ h, hc, hn, h1, q w T1 g1 h2⟩

/-! ### calls of defs -/
/-- the promise of a def: what it makes is new -/
def spF (K : PySem.W.Frag) (pre : List D → Prop) (G : List D → D) : Sp := fun vs H Q _ => ∃ ds, RpAll K H vs ds ∧ pre ds ∧ ∀ v H' Hn, Same H H' → Same Hn H' → (∀ a, Hn a ≠ none → H a = none) → Rp K Hn v (G ds) → Q v H'
def uni (A B : Hp) : Hp := fun a => match A a with | some o => some o | none => B a
theorem uni_l {A B : Hp} : Same A (uni A B) := fun a o h => by unfold uni; rw [h]
theorem uni_r {A B : Hp} (d : ∀ a, B a ≠ none → A a = none) : Same B (uni A B) := fun a o h => by
  unfold uni
  rw [d a (by rw [h]; intro z; cases z)]
  exact h
theorem uni_to {A B C : Hp} (h1 : Same A C) (h2 : Same B C) : Same (uni A B) C := fun a o h => by
  unfold uni at h
  cases e : A a with
  | none => rw [e] at h; exact h2 a o h
  | some u => rw [e] at h; cases h; exact h1 a _ e
theorem uni_mono {A A' B : Hp} (h : Same A A') (d : ∀ a, B a ≠ none → A' a = none) : Same (uni A B) (uni A' B) := uni_to (h.trans uni_l) (uni_r d)
theorem Grow.called {T : W3} (o : Ok T) {H' Hn : Hp} (h1 : Same T.h H') (h2 : Same Hn H') (dj : ∀ a, Hn a ≠ none → T.h a = none) : Grow T ⟨uni T.i Hn, uni T.n Hn, H'⟩ := by
  have di : ∀ a, Hn a ≠ none → T.i a = none := fun a h => o.i_none (dj a h)
  have fresh : ∀ {A : Hp} (a : Addr), A a = none → T.h a ≠ none → uni A Hn a = none := fun {A} a q r => by
    unfold uni
    rw [q]
    cases e : Hn a with
    | none => rfl
    | some u => exact absurd (dj a (by rw [e]; intro z; cases z)) r
  exact ⟨⟨uni_mono o.ni di, uni_to (o.ih.trans h1) h2⟩, h1, uni_l, uni_l, fun a q r => fresh a q r, fun a q r => fresh a q r⟩
structure Callee (P : Program) (w : World) (K : PySem.W.Frag) (mg : Str → Option Value) (base : Heap) (k : Nat) (x : Str) (pre : List D → Prop) (G : List D → D) : Prop where
  ex : ∃ (f : Addr) (fd : FuncData) (ps : List Str), FnOk P w K mg base CX0 k f fd ps (spF K pre G) ∧ mg x = some (.ref f) ∧ PySem.W.keepIn K (.ref f) = true ∧ Binds K fd ps []
theorem je_call {m n : Nat} {pre : List D → Prop} {G : List D → D} (C : Callee X.prog X.w X.K X.mg X.base m x pre G) (hr : Room n X.A) (ha : JA X .full (e :: es) ρ ds) (hp : pre ds) (hq : G ds = d := by rfl) (hk : m ≤ n := by decide) (hg : Gl X x := by rfl) (hdb : (x == ("__debug__" : Str)) = false := by decide)
    (he : starEach (e :: es) X.env = (false, eval e X.env) :: starEach es X.env := by exact star_c rfl) (hpl : (backTo pos (starEach es X.env)).any (·.1) = false := by exact back_ns rfl) : JE X .frs (.Call (.Name x p) (e :: es) [] pos) ρ d := by
  subst hq
  obtain ⟨f, fd, ps, F, hm, hkp, hb⟩ := C.ex
  exact JE.of (pe_call F (hr.mono hk) hg hm hkp hb .nil pass0 pa_w hdb he hpl) fun T σ Q Fm q => ha T σ _ Fm fun vs T1 g1 r1 =>
    ⟨ds, by rw [List.append_nil]; exact r1, hp, fun v H' Hn h1 h2 dj rv => q v ⟨uni T1.i Hn, uni T1.n Hn, H'⟩ (g1.trans (Grow.called g1.ok h1 h2 dj)) (rv.mono (uni_r fun a h => g1.ok.n_none (dj a h)))⟩
/-- a method -/
structure CalleeM (P : Program) (w : World) (K : PySem.W.Frag) (mg : Str → Option Value) (base : Heap) (k : Nat) (C : Addr) (x : Str) (pre : List D → Prop) (G : List D → D) : Prop where
  cl : Cls K C
  ex : ∃ (f : Addr) (fd : FuncData) (ps : List Str), FnOk P w K mg base CX0 k f fd ps (spF K pre G) ∧ Meth K C x f ∧ Binds K fd ps []
theorem je_meth {m n : Nat} {C : Addr} {apos : Pos} {gs : List (Str × D)} {pre : List D → Prop} {G : List D → D} (M : CalleeM X.prog X.w X.K X.mg X.base m C x pre G) (hr : Room n X.A) (ho : JE X la a ρ (.obj C gs)) (hno : gs.lookup x = none) (ha : JA X .full (e :: es) ρ ds) (hp : pre (.obj C gs :: ds)) (hq : G (.obj C gs :: ds) = d := by rfl) (hk : m ≤ n := by decide)
    (hpe : ∀ {f : Addr} {fd : FuncData} {ps : List Str} {to : TE} {ta : TA}, FnOk X.prog X.w X.K X.mg X.base CX0 m f fd ps (spF X.K pre G) → Meth X.K C x f → Binds X.K fd ps [] → Cls X.K C → Room m X.A → PE X a to → PA X (e :: es) ta → PE X (.Call (.Attribute a x apos) (e :: es) [] pos) (tMeth C x (spF X.K pre G) [] E0 to ta) := by
      exact fun F M B c r h1 h2 => pe_meth h1 c M F r B .nil pass0 h2) : JE X .frs (.Call (.Attribute a x apos) (e :: es) [] pos) ρ d := by
  subst hq
  obtain ⟨f, fd, ps, F, hm, hb⟩ := M.ex
  exact JE.of (hpe F hm hb M.cl (hr.mono hk) pe_w pa_w) fun T σ Q Fm q => ho T σ _ Fm fun v T0 g0 r0 => by
    have r0' := r0.mono g0.ok.full
    cases r0' with
    | @obj a C' dx fs _ h rr =>
      refine ⟨_, _, _, rfl, h, rr.no hno, ha T0 σ _ (Fm.grow g0) fun vs T1 g1 r1 => ?_⟩
      have g := g0.trans g1
      exact ⟨.obj C gs :: ds, .cons ((Rp.obj h rr).mono g1.ex) (by rw [List.append_nil]; exact r1), hp, fun v H' Hn h1 h2 dj rv => q v ⟨uni T1.i Hn, uni T1.n Hn, H'⟩ (g.trans (Grow.called g1.ok h1 h2 dj)) (rv.mono (uni_r fun a h => g1.ok.n_none (dj a h)))⟩
/-- a class made by its __init__ -/
def spI (K : PySem.W.Frag) (C : Addr) (pre : List D → Prop) (G : List D → List (Str × D)) : Sp := fun vs H Q _ => ∃ (x dx : Addr) (us : List V) (ds : List D), vs = .ref x :: us ∧ H x = some (.ins C dx []) ∧ RpAll K H us ds ∧ pre ds ∧
  ∀ fs H' Hn, (∀ b o, H b = some o → b ≠ x → H' b = some o) → H' x = some (.ins C dx fs) → Same Hn H' → (∀ a, Hn a ≠ none → H a = none) → RpF K Hn fs (G ds) → Q .non H'
structure Maker (P : Program) (w : World) (K : PySem.W.Frag) (mg : Str → Option Value) (base : Heap) (k : Nat) (x : Str) (C : Addr) (pre : List D → Prop) (G : List D → List (Str × D)) : Prop where
  mgC : mg x = some (.ref C)
  ex : ∃ (f : Addr) (fd : FuncData) (ps : List Str), FnOk P w K mg base CX0 k f fd ps (spI K C pre G) ∧ Mk K C f ∧ Binds K fd ps []
theorem je_make {m n : Nat} {C : Addr} {gs : List (Str × D)} {pre : List D → Prop} {G : List D → List (Str × D)} (M : Maker X.prog X.w X.K X.mg X.base m x C pre G) (hr : Room n X.A) (ha : JA X .full (e :: es) ρ ds) (hp : pre ds) (hq : G ds = gs := by rfl) (hk : m + 1 ≤ n := by decide) (hg : Gl X x := by rfl) (hdb : (x == ("__debug__" : Str)) = false := by decide)
    (he : starEach (e :: es) X.env = (false, eval e X.env) :: starEach es X.env := by exact star_c rfl) (hpl : (backTo pos (starEach es X.env)).any (·.1) = false := by exact back_ns rfl) : JE X .frs (.Call (.Name x p) (e :: es) [] pos) ρ (.obj C gs) := by
  subst hq
  obtain ⟨f, fd, ps, F, mk, hb⟩ := M.ex
  refine JE.of (pe_make mk F (hr.mono hk) hg M.mgC hb .nil pass0 pa_w hdb he hpl) fun T σ Q Fm q => ha T σ _ Fm fun vs T1 g1 r1 => ?_
  intro y dx ny nd ne
  have s1 : Same T1.h (upd (upd T1.h dx (.own y)) y (.ins C dx [])) := (same_new nd).trans (same_new (by rw [upd_ne ne.symm]; exact ny))
  refine ⟨y, dx, vs, ds, by rw [List.append_nil], upd_same, r1.mono s1, hp, fun fs H' Hn h1 h2 h3 dj rf => ⟨rfl, ?_⟩⟩
  have s2 : Same T1.h H' := Same.made ny nd h1
  have hny : Hn y = none := by
    cases e : Hn y with
    | none => rfl
    | some u =>
      have := dj y (by rw [e]; intro z; cases z)
      rw [upd_same] at this
      cases this
  have dj' : ∀ a, upd Hn y (.ins C dx fs) a ≠ none → T1.h a = none := fun a h => by
    by_cases z : a = y
    · rw [z]; exact ny
    · rw [upd_ne z] at h
      exact Same.free s1 (dj a h)
  exact q (.ref y) ⟨uni T1.i (upd Hn y (.ins C dx fs)), uni T1.n (upd Hn y (.ins C dx fs)), H'⟩ (g1.trans (Grow.called g1.ok s2 (same_up h3 h2) dj'))
    ((Rp.obj upd_same (rf.mono (same_new hny))).mono (uni_r fun a h => g1.ok.n_none (dj' a h)))
end
end Lf

set_option Elab.async false
set_option linter.all false
set_option maxRecDepth 100000
set_option maxHeartbeats 2000000
set_option autoImplicit false
namespace Lf
open PySem L2
section
variable {X : Cx} {e a b c : Expr} {es : List Expr} {ρ ρ1 : PEnv} {d d1 d2 d3 : D} {l la lb lc : Lv} {pos p p2 : Pos} {i j k : Int} {ns ms : List Int} {ds fs : List D} {kt : Nat} {x y z : Str} {st : Stmt} {sts : List Stmt} {P : PEnds}

/-! ### blocks -/
theorem jss_nil (h : P.nx ρ) : JSs X [] P ρ := JSs.of pss_nil fun T σ D F m => m.nx ρ σ T (Gw.refl F.ok) F h
theorem jss_cons (h : JS X st { P with nx := fun ρ' => JSs X sts P ρ' } ρ) : JSs X (st :: sts) P ρ :=
  JSs.of (pss_cons ps_w pss_w) fun T σ D F m => h T σ _ F ⟨fun ρ' σ' T' g F' j => j T' σ' D F' (m.gw g), m.rt, m.bk, m.ct, m.ru, m.rf⟩
theorem jss_one (h : JS X st P ρ) : JSs X [st] P ρ := JSs.of (pss_one ps_w) fun T σ D F m => h T σ _ F m
theorem js_doc {x : Str} {j : Nat} {p' : Pos} (h : P.nx ρ) : JS X (.Expr (.Constant (.str x) j p) p') P ρ := JS.of ps_doc fun T σ D F m => m.nx ρ σ T (Gw.refl F.ok) F h
theorem js_pass (h : P.nx ρ) : JS X (.Pass pos) P ρ := JS.of ps_pass fun T σ D F m => m.nx ρ σ T (Gw.refl F.ok) F h
theorem js_break (h : P.bk ρ) : JS X (.Break pos) P ρ := JS.of ps_break fun T σ D F m => m.bk ρ σ T (Gw.refl F.ok) F h
theorem js_continue (h : P.ct ρ) : JS X (.Continue pos) P ρ := JS.of ps_continue fun T σ D F m => m.ct ρ σ T (Gw.refl F.ok) F h
theorem js_expr (he : JE X l e ρ d) (h : P.nx ρ) (hs : swapsWith e none pos.line X.env = pure false := by exact sw_ns rfl) : JS X (.Expr e pos) P ρ :=
  JS.of (ps_expr pe_w hs) fun T σ D F m => he T σ _ F fun v T' g r => m.nx ρ σ T' g.w (F.grow g) h
theorem js_ret (he : JE X .frs e ρ d) (h : P.rt d) : JS X (.Return (some e) pos) P ρ :=
  JS.of (ps_ret pe_w) fun T σ D F m => he T σ _ F fun v T' g r => m.rt d v T' g.w h r
theorem js_retF (he : JE X .frs e ρ d) (h : P.rf ρ d) : JS X (.Return (some e) pos) P ρ :=
  JS.of (ps_ret pe_w) fun T σ D F m => he T σ _ F fun v T' g r => m.rf ρ σ d v T' g.w (F.grow g) h r
theorem js_retN (h : P.rt .non) : JS X (.Return none pos) P ρ := JS.of ps_retN fun T σ D F m => m.rt .non .non T (Gw.refl F.ok) h .non
theorem js_if {v : Bool} {s1 s2 : List Stmt} (hc : JT X c ρ v) (h1 : v = true → JSs X s1 P ρ) (h2 : v = false → JSs X s2 P ρ) : JS X (.If c s1 s2 pos) P ρ :=
  JS.of (ps_if pt_w pss_w pss_w) fun T σ D F m => hc T σ _ F fun T1 g1 => by
    cases v with
    | true => exact iteT (h1 rfl T1 σ D (F.grow g1) (m.gw g1.w))
    | false => exact iteF (h2 rfl T1 σ D (F.grow g1) (m.gw g1.w))
/-- the ends may be met otherwise -/
theorem JSs.imp {P' : PEnds} (h : JSs X sts P ρ) (hn : ∀ ρ', P.nx ρ' → P'.nx ρ') (hr : ∀ d, P.rt d → P'.rt d) (hb : ∀ ρ', P.bk ρ' → P'.bk ρ') (hc : ∀ ρ', P.ct ρ' → P'.ct ρ') (hu : ∀ d, P.ru d → P'.ru d) (hf : ∀ ρ d, P.rf ρ d → P'.rf ρ d) : JSs X sts P' ρ :=
  fun T σ D F m => h T σ D F ⟨fun ρ' σ' T' g F' q => m.nx ρ' σ' T' g F' (hn ρ' q), fun d v T' g q => m.rt d v T' g (hr d q), fun ρ' σ' T' g F' q => m.bk ρ' σ' T' g F' (hb ρ' q), fun ρ' σ' T' g F' q => m.ct ρ' σ' T' g F' (hc ρ' q), fun t v T' g q => m.ru t v T' g (hu _ q), fun ρ σ d v T' g F' q => m.rf ρ σ d v T' g F' (hf ρ d q)⟩
theorem JS.imp {P' : PEnds} (h : JS X st P ρ) (hn : ∀ ρ', P.nx ρ' → P'.nx ρ') (hr : ∀ d, P.rt d → P'.rt d) (hb : ∀ ρ', P.bk ρ' → P'.bk ρ') (hc : ∀ ρ', P.ct ρ' → P'.ct ρ') (hu : ∀ d, P.ru d → P'.ru d) (hf : ∀ ρ d, P.rf ρ d → P'.rf ρ d) : JS X st P' ρ :=
  fun T σ D F m => h T σ D F ⟨fun ρ' σ' T' g F' q => m.nx ρ' σ' T' g F' (hn ρ' q), fun d v T' g q => m.rt d v T' g (hr d q), fun ρ' σ' T' g F' q => m.bk ρ' σ' T' g F' (hb ρ' q), fun ρ' σ' T' g F' q => m.ct ρ' σ' T' g F' (hc ρ' q), fun t v T' g q => m.ru t v T' g (hu _ q), fun ρ σ d v T' g F' q => m.rf ρ σ d v T' g F' (hf ρ d q)⟩
/-- several ways meet -/
theorem js_cut (M : PEnv → Prop) (h : JS X st { P with nx := M } ρ) (hn : ∀ ρ', M ρ' → P.nx ρ') : JS X st P ρ := h.imp hn (fun _ q => q) (fun _ q => q) (fun _ q => q) (fun _ q => q) (fun _ _ q => q)
/-- an own list is kept as it is from now on -/
theorem jss_keepI (m : Nat) (hr : ρ[m]? = some (some (.ownI ns))) (h : JSs X sts P (ρ.set m (some (.v .frs (.il ns))))) : JSs X sts P ρ := fun T σ D F k => by
  obtain ⟨v, h1, a, rfl, h2, h3⟩ := F.val m _ hr
  obtain ⟨g, F'⟩ := F.keepO (d := .il ns) hr rfl h1 h2 h3 (.il upd_same)
  exact h (T.fix a _) σ D F' (k.gw g)
theorem jss_keepO (m : Nat) (hr : ρ[m]? = some (some (.own .frs ds))) (h : JSs X sts P (ρ.set m (some (.v .frs (.lst ds))))) : JSs X sts P ρ := fun T σ D F k => by
  obtain ⟨v, h1, _, a, vs, rfl, h2, h3, rr⟩ := F.val m _ hr
  obtain ⟨g, F'⟩ := F.keepO (d := .lst ds) hr rfl h1 h2 h3 (.lst upd_same (rr.mono (same_new (F.ok.n_none' h3))))
  exact h (T.fix a _) σ D F' (k.gw g)
/-- some names are forgotten -/
theorem JSs.forget (h : JSs X sts P ρ1) (hl : ρ1.length = ρ.length) (hh : ∀ (i : Nat) (e : E), ρ1[i]? = some (some e) → ρ[i]? = some (some e)) : JSs X sts P ρ := fun T σ D F m => h T σ D (F.forget hl hh) m

/-! ### names are bound -/
theorem js_set (n : Nat) {p' : Pos} (he : JE X l e ρ d) (h : P.nx (ρ.set n (some (.v l d)))) (hl : l ≠ .full := by decide) (hN : X.N.Nodup) (hi : X.N[n]? = some x := by rfl) (hx : Loc X.env.scope x := by first | exact Or.inl rfl | exact Or.inr rfl)
    (hs : swapsWith e (some (.Name x p')) pos.line X.env = pure false := by exact sw_ns rfl) (hf : X.fn x = true ∨ X.env.scope.names.lookup x = some .local := by exact Or.inl rfl) : JS X (.Assign [.Name x p'] e pos) P ρ :=
  JS.of (ps_set (i := n) hN hi hx pe_w hs hf) fun T σ D F m => he T σ _ F fun v T' g r => m.nx _ _ T' g.w ((F.grow g).set hl r) h
theorem js_setOI (n : Nat) {p' : Pos} (he : JOI X e ρ ns) (h : P.nx (ρ.set n (some (.ownI ns)))) (hN : X.N.Nodup) (hi : X.N[n]? = some x := by rfl) (hx : Loc X.env.scope x := by first | exact Or.inl rfl | exact Or.inr rfl)
    (hs : swapsWith e (some (.Name x p')) pos.line X.env = pure false := by exact sw_ns rfl) (hf : X.fn x = true ∨ X.env.scope.names.lookup x = some .local := by exact Or.inl rfl) : JS X (.Assign [.Name x p'] e pos) P ρ :=
  JS.of (ps_set (i := n) hN hi hx pe_w hs hf) fun T σ D F m => he T σ _ F fun a T' g h0 h1 h2 => m.nx _ _ T' g.w ((F.grow g).setOwn (e := .ownI ns) ⟨a, rfl, h2, h1⟩ (F.fresh h0)) h
theorem js_setO (n : Nat) {p' : Pos} (he : JO X l e ρ ds) (h : P.nx (ρ.set n (some (.own l ds)))) (hl : l ≠ .full := by decide) (hN : X.N.Nodup) (hi : X.N[n]? = some x := by rfl) (hx : Loc X.env.scope x := by first | exact Or.inl rfl | exact Or.inr rfl)
    (hs : swapsWith e (some (.Name x p')) pos.line X.env = pure false := by exact sw_ns rfl) (hf : X.fn x = true ∨ X.env.scope.names.lookup x = some .local := by exact Or.inl rfl) : JS X (.Assign [.Name x p'] e pos) P ρ :=
  JS.of (ps_set (i := n) hN hi hx pe_w hs hf) fun T σ D F m => he T σ _ F fun a vs T' g h0 h1 h2 r => m.nx _ _ T' g.w ((F.grow g).setOwn (e := .own l ds) ⟨hl, a, vs, rfl, h2, h1, r⟩ (F.fresh h0)) h
/-- x += e, of ints -/
theorem js_augA (n : Nat) {p' : Pos} (hr : ρ[n]? = some (some (.v la (.int i)))) (he : JE X l e ρ (.int j)) (h : P.nx (ρ.set n (some (.v .frs (.int (i + j)))))) (hN : X.N.Nodup) (hi : X.N[n]? = some x := by rfl) (hx : Loc X.env.scope x := by first | exact Or.inl rfl | exact Or.inr rfl)
    (hf : X.fn x = true ∨ X.env.scope.names.lookup x = some .local := by exact Or.inl rfl) : JS X (.AugAssign (.Name x p') .Add e pos) P ρ :=
  JS.of (ps_aug (i := n) hN hi hx pe_w ip_add hf) fun T σ D F m => by
    obtain ⟨v, h1, h2⟩ := F.val n _ hr
    obtain ⟨_, r⟩ := h2
    cases r
    refine ⟨_, h1, he T σ _ F fun v T' g r => ?_⟩
    cases r
    exact ⟨i, j, rfl, rfl, m.nx _ _ T' g.w ((F.grow g).set (by decide) (.int _)) h⟩
theorem js_augS (n : Nat) {p' : Pos} (hr : ρ[n]? = some (some (.v la (.int i)))) (he : JE X l e ρ (.int j)) (h : P.nx (ρ.set n (some (.v .frs (.int (i - j)))))) (hN : X.N.Nodup) (hi : X.N[n]? = some x := by rfl) (hx : Loc X.env.scope x := by first | exact Or.inl rfl | exact Or.inr rfl)
    (hf : X.fn x = true ∨ X.env.scope.names.lookup x = some .local := by exact Or.inl rfl) : JS X (.AugAssign (.Name x p') .Sub e pos) P ρ :=
  JS.of (ps_aug (i := n) hN hi hx pe_w ip_sub hf) fun T σ D F m => by
    obtain ⟨v, h1, h2⟩ := F.val n _ hr
    obtain ⟨_, r⟩ := h2
    cases r
    refine ⟨_, h1, he T σ _ F fun v T' g r => ?_⟩
    cases r
    exact ⟨i, j, rfl, rfl, m.nx _ _ T' g.w ((F.grow g).set (by decide) (.int _)) h⟩
/-- x, y = e1, e2 -/
theorem js_par (n m : Nat) {px py pt pt2 : Pos} {k1 k2 : Nat} (ha : JA X l [a, b] ρ [d1, d2]) (h : P.nx ((ρ.set n (some (.v l d1))).set m (some (.v l d2)))) (hl : l ≠ .full := by decide) (hN : X.N.Nodup) (hnm : n ≠ m := by decide) (hi : X.N[n]? = some x := by rfl) (hj : X.N[m]? = some y := by rfl)
    (hx : X.env.scope.names.lookup x = some .local := by rfl) (hy : X.env.scope.names.lookup y = some .local := by rfl) (hc : X.calm = true := by rfl)
    (hw : swappedStores [.Tuple [.Name x px, .Name y py] k1 pt] (.Tuple [a, b] k2 pt2) X.env = pure (some [x, y]) := by rfl)
    (hs : swapsWithSole [.Tuple [.Name x px, .Name y py] k1 pt] (.Tuple [a, b] k2 pt2) pos.line X.env = pure false := by exact sws_ns rfl) : JS X (.Assign [.Tuple [.Name x px, .Name y py] k1 pt] (.Tuple [a, b] k2 pt2) pos) P ρ :=
  JS.of (ps_par (i := n) (j := m) hc hN hi hj hnm hx hy pa_w hw hs) fun T σ D F mm => ha T σ _ F fun vs T' g r => by
    cases r with
    | cons r1 r2 =>
      cases r2 with
      | cons r2 r3 =>
        cases r3
        exact ⟨_, _, rfl, mm.nx _ _ T' g.w (((F.grow g).set hl r1).set hl r2) h⟩
/-! ### targets -/
def wG (X : Cx) (tg : Expr) : TG := fun v σ H Q => ∀ pins s u, Inv X pins σ H s → RelV v u → wpAny (model X.prog X.w) X.A (assign tg X.env u) (fun _ s' => ∃ σ' H', Inv X pins σ' H' s' ∧ Q σ' H') X.xe s
theorem pg_w {tg : Expr} : PG X tg (wG X tg) := ⟨fun pins s σ H v u Q I r h => h pins s u I r⟩
/-- a value d, held at l, is bound to the target -/
def JG (X : Cx) (tg : Expr) (l : Lv) (d : D) (ρ ρ' : PEnv) : Prop :=
  ∀ (T : W3) (σ : L2.St) (v : V) (Q : L2.St → Hp → Prop), Fr X.K T σ ρ → Rp X.K (T.at l) v d → (∀ σ', Fr X.K T σ' ρ' → Q σ' T.h) → wG X tg v σ T.h Q
theorem jg_name (n : Nat) (hN : X.N.Nodup) (hl : l ≠ .full := by decide) (hi : X.N[n]? = some x := by rfl) (hx : Loc X.env.scope x := by first | exact Or.inl rfl | exact Or.inr rfl) (hf : X.fn x = true ∨ X.env.scope.names.lookup x = some .local := by exact Or.inl rfl) :
    JG X (.Name x p) l d ρ (ρ.set n (some (.v l d))) := fun T σ v Q F r q pins s u I rv => (pg_name (i := n) hN hi hx hf).run pins s σ T.h v u Q I rv (q _ (F.set hl r))
theorem jg_pair (n m : Nat) {px py : Pos} {k1 : Nat} (hN : X.N.Nodup) (hl : l ≠ .full := by decide) (hi : X.N[n]? = some x := by rfl) (hj : X.N[m]? = some y := by rfl) (hx : Loc X.env.scope x := by first | exact Or.inl rfl | exact Or.inr rfl) (hy : Loc X.env.scope y := by first | exact Or.inl rfl | exact Or.inr rfl)
    (hf : X.fn x = true ∨ X.env.scope.names.lookup x = some .local := by exact Or.inl rfl) (hf2 : X.fn y = true ∨ X.env.scope.names.lookup y = some .local := by exact Or.inl rfl) (hc : X.calm = true := by rfl)
    (hs1 : (assignEach [.Name x px, .Name y py] X.env).map (·.2) = assign (.Name x px) X.env :: (assignEach [.Name y py] X.env).map (·.2) := by rfl) (hs2 : (assignEach [.Name y py] X.env).map (·.2) = assign (.Name y py) X.env :: (assignEach [] X.env).map (·.2) := by rfl)
    (hn : (assignEach [.Name x px, .Name y py] X.env).length = 2 := by rfl) (hst : (assignEach [.Name x px, .Name y py] X.env).findIdx? (·.1) = none := by rfl) :
    JG X (.Tuple [.Name x px, .Name y py] k1 p) l (.tup [d1, d2]) ρ ((ρ.set n (some (.v l d1))).set m (some (.v l d2))) := fun T σ v Q F r q pins s u I rv => by
  cases r with
  | tup h rr =>
    have h := SqT.of (K := X.K) h
    cases rr with
    | cons r1 rr =>
      cases rr with
      | cons r2 rr =>
        cases rr
        exact (pg_tup hc (pgs_cons (pg_name (i := n) hN hi hx hf) (pgs_cons (pg_name (i := m) hN hj hy hf2) pgs_nil hs2) hs1) hn hst).run pins s σ T.h _ u Q I rv
          ⟨_, _, rfl, seqT F.ok.full h, rfl, _, _, rfl, _, _, rfl, rfl, q _ ((F.set hl r1).set hl r2)⟩
/-- a target takes a value -/
theorem js_asg {tg : Expr} (he : JE X l e ρ d) (hg : JG X tg l d ρ ρ1) (h : P.nx ρ1) (hs : swapsWithSole [tg] e pos.line X.env = pure false := by exact sws_ns rfl) (hw : swappedStores [tg] e X.env = pure none := by first | exact ss_tup rfl | rfl)
    (h1 : (assignEach [tg] X.env).map (·.2) = [assign tg X.env] := by rfl) : JS X (.Assign [tg] e pos) P ρ :=
  JS.of (ps_asg pe_w pg_w hs hw h1) fun T σ D F m => he T σ _ F fun v T' g r => hg T' σ v _ (F.grow g) r fun σ' F' => m.nx _ _ T' g.w F' h

/-! ### own lists change -/
theorem js_appI (n : Nat) {apos cpos : Pos} (hr : ρ[n]? = some (some (.ownI ns))) (he : JE X l e ρ (.int i)) (h : P.nx (ρ.set n (some (.ownI (ns ++ [i]))))) (hz : ns.length < 100000) (hN : X.N[n]? = some x := by rfl)
    (hv : Vis X.env.scope x := by first | exact Or.inl rfl | exact Or.inr (Or.inl rfl) | exact Or.inr (Or.inr rfl)) (hd : (x == ("__debug__" : Str)) = false := by decide) (hcd : (x == ("__classdict__" : Str)) = false := by decide)
    (hbm : ∀ (to : TE) (ta : TA), PE X (.Name x p) to → PA X [e] ta → PE X (.Call (.Attribute (.Name x p) "append" apos) [e] [] cpos) (tBM X.K "list" rAppend to ta) := by
      exact fun to ta ho hx => pe_bm PySem.F.plainAttrs_list PySem.F.slot_list_append PySem.F.type_list_append mt_append ho hx)
    (hst : starEach [e] X.env = (false, eval e X.env) :: starEach [] X.env := by exact star_c rfl) (hs : swapsWith (.Call (.Attribute (.Name x p) "append" apos) [e] [] cpos) none pos.line X.env = pure false := by exact sw_ns rfl) :
    JS X (.Expr (.Call (.Attribute (.Name x p) "append" apos) [e] [] cpos) pos) P ρ :=
  JS.of (ps_expr (hbm _ _ (pe_var hN hv hd hcd) (pa_cons pe_w pa_nil hst)) hs) fun T σ D F m => by
    obtain ⟨v, h1, a, rfl, h2, h3⟩ := F.val n _ hr
    refine ⟨_, h1, .inl ⟨rfl, _, SqL.of h2⟩, he T σ _ F fun w T1 g1 r1 => ?_⟩
    cases r1
    have F1 := F.grow g1
    have h2' := g1.ex _ _ h2
    have h3' := g1.fi a h3 (by rw [h2]; intro z; cases z)
    refine ⟨a, _, _, rfl, rfl, h2', by rw [List.length_map]; exact small_lt hz, ?_⟩
    exact m.nx _ σ (T1.put a (.lst (ns.map V.int ++ [V.int i]))) (g1.w.trans (Gw.put g1.ok h3')) (F1.chg (e1 := .ownI (ns ++ [i])) hr rfl h1 rfl ⟨a, rfl, by rw [List.map_append]; exact upd_same, h3'⟩) h
theorem js_app (n : Nat) {apos cpos : Pos} (hr : ρ[n]? = some (some (.own l ds))) (he : JE X la e ρ d) (h : P.nx (ρ.set n (some (.own l (ds ++ [d]))))) (hz : ds.length < 100000) (hle : Lv.le la l = true := by rfl) (hN : X.N[n]? = some x := by rfl)
    (hv : Vis X.env.scope x := by first | exact Or.inl rfl | exact Or.inr (Or.inl rfl) | exact Or.inr (Or.inr rfl)) (hd : (x == ("__debug__" : Str)) = false := by decide) (hcd : (x == ("__classdict__" : Str)) = false := by decide)
    (hbm : ∀ (to : TE) (ta : TA), PE X (.Name x p) to → PA X [e] ta → PE X (.Call (.Attribute (.Name x p) "append" apos) [e] [] cpos) (tBM X.K "list" rAppend to ta) := by
      exact fun to ta ho hx => pe_bm PySem.F.plainAttrs_list PySem.F.slot_list_append PySem.F.type_list_append mt_append ho hx)
    (hst : starEach [e] X.env = (false, eval e X.env) :: starEach [] X.env := by exact star_c rfl) (hs : swapsWith (.Call (.Attribute (.Name x p) "append" apos) [e] [] cpos) none pos.line X.env = pure false := by exact sw_ns rfl) :
    JS X (.Expr (.Call (.Attribute (.Name x p) "append" apos) [e] [] cpos) pos) P ρ :=
  JS.of (ps_expr (hbm _ _ (pe_var hN hv hd hcd) (pa_cons pe_w pa_nil hst)) hs) fun T σ D F m => by
    obtain ⟨v, h1, hl, a, vs, rfl, h2, h3, rr⟩ := F.val n _ hr
    refine ⟨_, h1, .inl ⟨rfl, _, SqL.of h2⟩, he T σ _ F fun w T1 g1 r1 => ?_⟩
    have F1 := F.grow g1
    have h2' := g1.ex _ _ h2
    have h3' := g1.fi a h3 (by rw [h2]; intro z; cases z)
    refine ⟨a, _, w, rfl, rfl, h2', by rw [rr.length]; exact small_lt hz, ?_⟩
    refine m.nx _ σ (T1.put a (.lst (vs ++ [w]))) (g1.w.trans (Gw.put g1.ok h3')) (F1.chg (e1 := .own l (ds ++ [d])) hr rfl h1 rfl ⟨hl, a, _, rfl, upd_same, h3', ?_⟩) h
    have rw' := (rr.mono (g1.at l)).append (.cons (r1.mono (g1.ok.le hle)) .nil)
    cases l with
    | full => exact absurd rfl hl
    | imm => exact rw'
    | frs => exact rw'
theorem js_popI (n : Nat) {apos cpos : Pos} (hr : ρ[n]? = some (some (.ownI ns))) (h : P.nx (ρ.set n (some (.ownI ns.dropLast)))) (hz : 0 < ns.length) (hN : X.N[n]? = some x := by rfl)
    (hv : Vis X.env.scope x := by first | exact Or.inl rfl | exact Or.inr (Or.inl rfl) | exact Or.inr (Or.inr rfl)) (hd : (x == ("__debug__" : Str)) = false := by decide) (hcd : (x == ("__classdict__" : Str)) = false := by decide)
    (hbm : ∀ (to : TE), PE X (.Name x p) to → PE X (.Call (.Attribute (.Name x p) "pop" apos) [] [] cpos) (tBM0 X.K "list" rPop to) := by
      exact fun to ho => pe_bm0 PySem.F.plainAttrs_list PySem.F.slot_list_pop PySem.F.type_list_pop mt_pop ho)
    (hs : swapsWith (.Call (.Attribute (.Name x p) "pop" apos) [] [] cpos) none pos.line X.env = pure false := by exact sw_ns rfl) :
    JS X (.Expr (.Call (.Attribute (.Name x p) "pop" apos) [] [] cpos) pos) P ρ :=
  JS.of (ps_expr (hbm _ (pe_var hN hv hd hcd)) hs) fun T σ D F m => by
    obtain ⟨v, h1, a, rfl, h2, h3⟩ := F.val n _ hr
    refine ⟨_, h1, .inl ⟨rfl, _, SqL.of h2⟩, a, _, .int (ns[ns.length - 1]'(by omega)), rfl, rfl, h2, ?_, ?_⟩
    · rw [List.length_map, List.getElem?_map, List.getElem?_eq_getElem (by omega)]
      rfl
    · exact m.nx _ σ (T.put a (.lst (ns.map V.int).dropLast)) (Gw.put F.ok h3) (F.chg (e1 := .ownI ns.dropLast) hr rfl h1 rfl ⟨a, rfl, by rw [List.map_dropLast]; exact upd_same, h3⟩) h
/-- xs[i] = e of an own list of ints -/
theorem ixN_some {n : Nat} {i : Int} (h : inR n i) : ∃ j, j < n ∧ ixN n i = some j ∧ ((0 ≤ i ∧ j = i.toNat) ∨ (i < 0 ∧ j = (i + n).toNat)) := by
  obtain ⟨h1, h2⟩ := h
  unfold ixN
  by_cases h0 : 0 ≤ i
  · rw [if_pos h0, if_pos h2]
    exact ⟨i.toNat, by omega, rfl, .inl ⟨h0, rfl⟩⟩
  · rw [if_neg h0, if_pos h1]
    exact ⟨(i + n).toNat, by omega, rfl, .inr ⟨by omega, rfl⟩⟩
def setI (ns : List Int) (i v : Int) : List Int := ns.set (if 0 ≤ i then i.toNat else (i + ns.length).toNat) v
theorem js_setI (n : Nat) {pt : Pos} (hr : ρ[n]? = some (some (.ownI ns))) (he : JE X l e ρ (.int k)) (hb : JE X lb b ρ (.int i)) (hin : inR ns.length i) (h : P.nx (ρ.set n (some (.ownI (setI ns i k))))) (hN : X.N[n]? = some x := by rfl)
    (hv : Vis X.env.scope x := by first | exact Or.inl rfl | exact Or.inr (Or.inl rfl) | exact Or.inr (Or.inr rfl)) (hd : (x == ("__debug__" : Str)) = false := by decide) (hcd : (x == ("__classdict__" : Str)) = false := by decide)
    (hgs : ∀ (to ti : TE), PE X (.Name x p) to → PE X b ti → PG X (.Subscript (.Name x p) b pt) (gSub to ti rSetL) := by exact fun to ti h1 h2 => pg_sub h1 h2 set_list)
    (hs : swapsWithSole [.Subscript (.Name x p) b pt] e pos.line X.env = pure false := by exact sws_ns rfl) (hw : swappedStores [.Subscript (.Name x p) b pt] e X.env = pure none := by exact ss_sub)
    (h1 : (assignEach [.Subscript (.Name x p) b pt] X.env).map (·.2) = [assign (.Subscript (.Name x p) b pt) X.env] := by rfl) : JS X (.Assign [.Subscript (.Name x p) b pt] e pos) P ρ :=
  JS.of (ps_asg pe_w (hgs _ _ (pe_var hN hv hd hcd) pe_w) hs hw h1) fun T σ D F m => he T σ _ F fun w T1 g1 r1 => by
    cases r1
    obtain ⟨v, h1, a, rfl, h2, h3⟩ := F.val n _ hr
    refine ⟨_, h1, hb T1 σ _ (F.grow g1) fun u T2 g2 r2 => ?_⟩
    cases r2
    have g := g1.trans g2
    obtain ⟨j, hj, ej, q⟩ := ixN_some hin
    have h2' := g.ex _ _ h2
    have h3' := g.fi a h3 (by rw [h2]; intro z; cases z)
    refine ⟨a, _, i, j, rfl, rfl, h2', by rw [List.length_map]; exact ej, ?_⟩
    have es : (ns.map V.int).set j (V.int k) = (setI ns i k).map V.int := by
      unfold setI
      rcases q with ⟨h0, rfl⟩ | ⟨h0, rfl⟩
      · rw [if_pos h0, List.map_set]
      · rw [if_neg (by omega), List.map_set]
    rw [es]
    exact m.nx _ σ (T2.put a (.lst ((setI ns i k).map V.int))) (g.w.trans (Gw.put g.ok h3')) ((F.grow g).chg (e1 := .ownI (setI ns i k)) hr rfl h1 rfl ⟨a, rfl, upd_same, h3'⟩) h

/-! ### what is walked -/
def wI (X : Cx) (tg iter : Expr) : TI := fun σ H R => ∀ pins s, Inv X pins σ H s → wpAny (model X.prog X.w) X.A (eval iter X.env) (fun v s1 => wpAny (model X.prog X.w) X.A (pyIter v) (PIE X pins σ tg R) X.xe s1) X.xe s
theorem pi_w {tg iter : Expr} : PI X tg iter (wI X tg iter) := ⟨fun pins s σ H R I h => h pins s I⟩
/-- J walks ds -/
def Walks (K : PySem.W.Frag) (T0 : W3) (J : It) (l : Lv) (ds : List D) : Prop := ∀ (T : W3) (i : Nat), Same T0.i T.i → Same T0.n T.n → Ok T →
  (∀ d, ds[i]? = some d → J.go i T.h ∧ ∀ x H', J.yld i T.h x H' → ∃ T', T'.h = H' ∧ Grow T T' ∧ Rp K (T'.at l) x d) ∧ (ds[i]? = none → J.stop i T.h)
def JI (X : Cx) (tg iter : Expr) (l : Lv) (ρ : PEnv) (ds : List D) : Prop :=
  ∀ (T : W3) (σ : L2.St) (R : It → Hp → Prop), Fr X.K T σ ρ → (∀ J T', Grow T T' → Walks X.K T' J l ds → R J T'.h) → wI X tg iter σ T.h R
theorem JI.of {tg iter : Expr} {ti : TI} (h : PI X tg iter ti) (r : ∀ (T : W3) (σ : L2.St) (R : It → Hp → Prop), Fr X.K T σ ρ → (∀ J T', Grow T T' → Walks X.K T' J l ds → R J T'.h) → ti σ T.h R) : JI X tg iter l ρ ds :=
  fun T σ R F q pins s I => h.run pins s σ T.h R I (r T σ R F q)
theorem ji_list {tg : Expr} (ha : JE X la a ρ (.il ns)) (z : Lv.le la .imm = true := by rfl) : JI X tg a .frs ρ (ns.map D.int) :=
  JI.of (pi_list pe_w) fun T σ R F q => ha T σ _ F fun v T1 g1 r1 => by
    cases r1 with
    | il h =>
      have h := SqL.of (K := X.K) h
      have hi := (g1.ok.le z).seq h
      refine ⟨_, rfl, ⟨_, g1.ok.ih.seq hi⟩, q _ T1 g1 fun T' i s sn o => ⟨fun d e => ?_, fun e => ?_⟩⟩
      · have e' : ns[i]?.map D.int = some d := by rw [← List.getElem?_map]; exact e
        cases en : ns[i]? with
        | none => rw [en] at e'; cases e'
        | some n =>
          rw [en] at e'
          cases e'
          have hx : (ns.map V.int)[i]? = some (.int n) := by rw [List.getElem?_map, en]; rfl
          refine ⟨⟨_, _, (s.trans o.ih).seq hi, hx⟩, fun x H' y => ?_⟩
          obtain ⟨rfl, y⟩ := y
          have ex := y _ ((s.trans o.ih).seq hi)
          rw [hx] at ex
          cases ex
          exact ⟨T', rfl, Grow.refl o, .int n⟩
      · refine ⟨_, (s.trans o.ih).seq hi, ?_⟩
        have := List.getElem?_eq_none_iff.mp e
        rw [List.length_map] at this ⊢
        exact this
theorem ji_lst {tg : Expr} (ha : JE X l a ρ (.lst ds)) (z : Lv.le l .imm = true := by rfl) : JI X tg a l ρ ds :=
  JI.of (pi_list pe_w) fun T σ R F q => ha T σ _ F fun v T1 g1 r1 => by
    cases r1 with
    | lst h rr =>
      have h := SqL.of (K := X.K) h
      have hi := (g1.ok.le z).seq h
      have rn : ∀ (T' : W3), Same T1.i T'.i → Ok T' → ∀ {x : V} {d : D}, Rp X.K (T1.at .imm) x d → Rp X.K (T'.at .imm) x d := fun T' s o x d r => r.mono s
      refine ⟨_, rfl, ⟨_, g1.ok.ih.seq hi⟩, ?_⟩
      cases l with
      | full => cases z
      | imm =>
        refine q _ T1 g1 fun T' i s sn o => ⟨fun d e => ?_, fun e => ?_⟩
        · obtain ⟨w, e1, e2⟩ := rr.get e
          refine ⟨⟨_, _, (s.trans o.ih).seq hi, e1⟩, fun x H' y => ?_⟩
          obtain ⟨rfl, y⟩ := y
          have ex := y _ ((s.trans o.ih).seq hi)
          rw [e1] at ex
          cases ex
          exact ⟨T', rfl, Grow.refl o, e2.mono s⟩
        · refine ⟨_, (s.trans o.ih).seq hi, ?_⟩
          have := List.getElem?_eq_none_iff.mp e
          rw [rr.length]
          exact this
      | frs =>
        have rr' := rr.mono g1.ok.ni
        refine q _ T1 g1 fun T' i s sn o => ⟨fun d e => ?_, fun e => ?_⟩
        · obtain ⟨w, e1, e2⟩ := rr.get e
          refine ⟨⟨_, _, (s.trans o.ih).seq hi, e1⟩, fun x H' y => ?_⟩
          obtain ⟨rfl, y⟩ := y
          have ex := y _ ((s.trans o.ih).seq hi)
          rw [e1] at ex
          cases ex
          exact ⟨T', rfl, Grow.refl o, e2.mono sn⟩
        · refine ⟨_, (s.trans o.ih).seq hi, ?_⟩
          have := List.getElem?_eq_none_iff.mp e
          rw [rr.length]
          exact this
end
end Lf

set_option Elab.async false
set_option linter.all false
set_option maxRecDepth 100000
set_option maxHeartbeats 2000000
set_option autoImplicit false
namespace Lf
open PySem L2
section
variable {X : Cx} {e a b c : Expr} {es : List Expr} {ρ ρ1 : PEnv} {d d1 d2 d3 : D} {l la lb lc : Lv} {pos p p2 : Pos} {i j k : Int} {ns ms : List Int} {ds fs : List D} {kt : Nat} {x y z : Str} {st : Stmt} {sts : List Stmt} {P : PEnds}
/-- a tuple is walked -/
theorem ji_tup {tg : Expr} (ha : JE X l a ρ (.tup ds)) (z : Lv.le l .imm = true := by rfl) : JI X tg a l ρ ds :=
  JI.of (pi_tup pe_w) fun T σ R F q => ha T σ _ F fun v T1 g1 r1 => by
    cases r1 with
    | tup h rr =>
      have h := SqT.of (K := X.K) h
      have hi := seqT (g1.ok.le z) h
      refine ⟨_, rfl, ⟨_, seqT g1.ok.ih hi⟩, q _ T1 g1 fun T' i s sn o => ⟨fun d e => ?_, fun e => ?_⟩⟩
      · obtain ⟨w, e1, e2⟩ := rr.get e
        refine ⟨⟨_, _, seqT (s.trans o.ih) hi, e1⟩, fun x H' y => ?_⟩
        obtain ⟨rfl, y⟩ := y
        have ex := y _ (seqT (s.trans o.ih) hi)
        rw [e1] at ex
        cases ex
        refine ⟨T', rfl, Grow.refl o, ?_⟩
        cases l with
        | full => cases z
        | imm => exact e2.mono s
        | frs => exact e2.mono sn
      · refine ⟨_, seqT (s.trans o.ih) hi, ?_⟩
        have := List.getElem?_eq_none_iff.mp e
        rw [rr.length]
        exact this
/-- lo, lo + 1, .. -/
def rngI (lo : Int) (n : Nat) : List Int := (List.range n).map fun (i : Nat) => lo + (i : Int)
theorem rngI_get {lo : Int} {n i : Nat} : (rngI lo n)[i]? = if i < n then some (lo + (i : Int)) else none := by
  unfold rngI
  rw [List.getElem?_map]
  by_cases h : i < n
  · rw [if_pos h, List.getElem?_range h]; rfl
  · rw [if_neg h, List.getElem?_eq_none (by simpa using h)]; rfl
theorem rngI_length {lo : Int} {n : Nat} : (rngI lo n).length = n := by unfold rngI; simp
theorem walks_range {lo : Int} {n : Nat} {T0 : W3} : Walks X.K T0 (Itr lo n) .frs ((rngI lo n).map D.int) := fun T i s sn o => by
  constructor
  · intro d e
    rw [List.getElem?_map, rngI_get] at e
    by_cases h : i < n
    · rw [if_pos h] at e
      cases e
      refine ⟨h, fun x H' y => ?_⟩
      obtain ⟨rfl, rfl⟩ := y
      exact ⟨T, rfl, Grow.refl o, .int _⟩
    · rw [if_neg h] at e
      cases e
  · intro e
    rw [List.getElem?_map, rngI_get] at e
    by_cases h : i < n
    · rw [if_pos h] at e
      cases e
    · exact Nat.le_of_not_lt h
theorem ji_range {tg : Expr} (hm : X.mg "range" = none) (ha : JE X la a ρ (.int i)) (hz : i ≤ 100000) (h0 : -100000 ≤ i) (hg : Gl X "range" := by rfl) (hs : starEach [a] X.env = [(false, eval a X.env)] := by exact star_1 rfl) : JI X tg (.Call (.Name "range" p) [a] [] pos) .frs ρ ((rngI 0 i.toNat).map D.int) :=
  JI.of (pi_range1 hg hm (pa_cons pe_w pa_nil hs) hs) fun T σ R F q => ha T σ _ F fun v T1 g1 r1 => by
    cases r1
    exact ⟨i, rfl, by omega, by omega, q _ T1 g1 walks_range⟩
theorem ji_range2 {tg : Expr} (hm : X.mg "range" = none) (ha : JE X la a ρ (.int i)) (hb : JE X lb b ρ (.int j)) (hz : -100000 ≤ i ∧ i ≤ 100000) (hz2 : -100000 ≤ j ∧ j ≤ 100000) (hg : Gl X "range" := by rfl) (hs : starEach [a, b] X.env = [(false, eval a X.env), (false, eval b X.env)] := by exact star_1 rfl)
    (hs2 : starEach [b] X.env = [(false, eval b X.env)] := by exact star_1 rfl) : JI X tg (.Call (.Name "range" p) [a, b] [] pos) .frs ρ ((rngI i (j - i).toNat).map D.int) :=
  JI.of (pi_range2 hg hm (pa_cons pe_w (pa_cons pe_w pa_nil hs2) (by rw [hs, hs2])) hs hs2) fun T σ R F q => ha T σ _ F fun v T1 g1 r1 => hb T1 σ _ (F.grow g1) fun u T2 g2 r2 => by
    cases r1
    cases r2
    exact ⟨i, j, rfl, by omega, q _ T2 (g1.trans g2) walks_range⟩
/-- reversed(range(n)) -/
theorem ji_revRange {tg : Expr} {p3 pos3 : Pos} (hm : X.mg "reversed" = none) (hm2 : X.mg "range" = none) (ha : JE X la a ρ (.int i)) (hz : -100000 ≤ i ∧ i ≤ 100000) (hg : Gl X "reversed" := by rfl) (hg2 : Gl X "range" := by rfl) (na : starEach [a] X.env = (false, eval a X.env) :: starEach [] X.env := by exact star_c rfl)
    (hs : starEach [.Call (.Name "range" p3) [a] [] pos3] X.env = (false, eval (.Call (.Name "range" p3) [a] [] pos3) X.env) :: starEach [] X.env := by exact star_c rfl) :
    JI X tg (.Call (.Name "reversed" p) [.Call (.Name "range" p3) [a] [] pos3] [] pos) .frs ρ ((rngI 0 i.toNat).reverse.map D.int) :=
  JI.of (pi_revR hg hm (prg_1 hg2 hm2 pe_w na) hs) fun T σ R F q => ha T σ _ F fun v T1 g1 r1 => by
    cases r1
    refine ⟨i, rfl, by omega, by omega, by omega, by omega, q _ T1 g1 fun T' t s sn o => ?_⟩
    have hn : (i - 0).toNat = i.toNat := by rw [Int.sub_zero]
    constructor
    · intro d e
      have ht : t < i.toNat := by
        have := (List.getElem?_eq_some_iff.mp e).1
        rw [List.length_map, List.length_reverse, rngI_length] at this
        exact this
      rw [List.getElem?_map, List.getElem?_reverse (by rw [rngI_length]; exact ht), rngI_get, rngI_length, if_pos (by omega)] at e
      cases e
      refine ⟨by show t < (i - 0).toNat; rw [hn]; exact ht, fun x H' y => ?_⟩
      obtain ⟨rfl, rfl⟩ := y
      refine ⟨T', rfl, Grow.refl o, ?_⟩
      rw [hn]
      have ee : (0 : Int) + (i.toNat : Int) - 1 + (t : Int) * -1 = 0 + ((i.toNat - 1 - t : Nat) : Int) := by omega
      rw [ee]
      exact .int _
    · intro e
      have := List.getElem?_eq_none_iff.mp e
      rw [List.length_map, List.length_reverse, rngI_length] at this
      show (i - 0).toNat ≤ t
      rw [hn]
      exact this
/-- enumerate(xs), of ints -/
def enumI (ns : List Int) : List D := (List.range ns.length).map fun (i : Nat) => .tup [.int (i : Int), .int (ns.getD i 0)]
theorem enumI_get {i : Nat} {n : Int} (h : ns[i]? = some n) : (enumI ns)[i]? = some (.tup [.int i, .int n]) := by
  unfold enumI
  have hi := (List.getElem?_eq_some_iff.mp h).1
  rw [List.getElem?_map, List.getElem?_range hi, Option.map_some, List.getD_eq_getElem?_getD, h]
  rfl
theorem enumI_length : (enumI ns).length = ns.length := by unfold enumI; simp
theorem ji_enum {elts : List Expr} {kk : Nat} {tpos : Pos} (hm : X.mg "enumerate" = none) (ha : JE X la a ρ (.il ns)) (z : Lv.le la .imm = true := by rfl) (hg : Gl X "enumerate" := by rfl) (hs : starEach [a] X.env = [(false, eval a X.env)] := by exact star_1 rfl) :
    JI X (.Tuple elts kk tpos) (.Call (.Name "enumerate" p) [a] [] pos) .frs ρ (enumI ns) :=
  JI.of (pi_enum hg hm (pa_cons pe_w pa_nil hs) hs) fun T σ R F q => ha T σ _ F fun v T1 g1 r1 => by
    cases r1 with
    | il h =>
      have h := SqL.of (K := X.K) h
      have hi := (g1.ok.le z).seq h
      refine ⟨_, _, rfl, g1.ok.ih.seq hi, q _ T1 g1 fun T' i s sn o => ⟨fun d e => ?_, fun e => ?_⟩⟩
      · have hlt : i < ns.length := by
          have := (List.getElem?_eq_some_iff.mp e).1
          rw [enumI_length] at this
          exact this
        have en : ns[i]? = some ns[i] := List.getElem?_eq_getElem hlt
        rw [enumI_get en] at e
        cases e
        have hx : (ns.map V.int)[i]? = some (.int ns[i]) := by rw [List.getElem?_map, en]; rfl
        have hq := (s.trans o.ih).seq hi
        refine ⟨⟨_, _, hq, hx⟩, fun x H' y => ?_⟩
        obtain ⟨t, w, rfl, ht, rfl, y⟩ := y
        have ex := y _ hq
        rw [hx] at ex
        cases ex
        exact ⟨(T'.put t _).fix t _, rfl, (Grow.put o ht).fix ht (o.i_none ht) upd_same, .tup upd_same (.cons (.int _) (.cons (.int _) .nil))⟩
      · refine ⟨_, (s.trans o.ih).seq hi, ?_⟩
        have := List.getElem?_eq_none_iff.mp e
        rw [enumI_length] at this
        rw [List.length_map]
        exact this
/-- zip(xs, ys), of ints -/
def zipI (ns ms : List Int) : List D := (List.zip ns ms).map fun p => .tup [.int p.1, .int p.2]
theorem ji_zip {elts : List Expr} {kk : Nat} {tpos : Pos} (hm : X.mg "zip" = none) (ha : JE X la a ρ (.il ns)) (hb : JE X lb b ρ (.il ms)) (z : Lv.le la .imm = true := by rfl) (z2 : Lv.le lb .imm = true := by rfl) (hg : Gl X "zip" := by rfl) (hs : starEach [a, b] X.env = (false, eval a X.env) :: starEach [b] X.env := by exact star_c rfl)
    (hs2 : starEach [b] X.env = (false, eval b X.env) :: starEach [] X.env := by exact star_c rfl) (hpl : (backTo pos (starEach [b] X.env)).any (·.1) = false := by exact back_ns rfl) : JI X (.Tuple elts kk tpos) (.Call (.Name "zip" p) [a, b] [] pos) .frs ρ (zipI ns ms) :=
  JI.of (pi_zip hg hm (pa_cons pe_w (pa_cons pe_w pa_nil hs2) hs) hs hpl) fun T σ R F q => ha T σ _ F fun v T1 g1 r1 => hb T1 σ _ (F.grow g1) fun u T2 g2 r2 => by
    have g := g1.trans g2
    cases r1 with
    | il h =>
      have h := SqL.of (K := X.K) h
      cases r2 with
      | il h2 =>
        have h2 := SqL.of (K := X.K) h2
        have hi := g2.xi.seq ((g1.ok.le z).seq h)
        have hi2 := (g2.ok.le z2).seq h2
        refine ⟨_, _, _, _, rfl, g2.ok.ih.seq hi, g2.ok.ih.seq hi2, q _ T2 g fun T' i s sn o => ⟨fun d e => ?_, fun e => ?_⟩⟩
        · have hlt : i < ns.length ∧ i < ms.length := by
            have := (List.getElem?_eq_some_iff.mp e).1
            unfold zipI at this
            rw [List.length_map, List.length_zip] at this
            omega
          have hq := (s.trans o.ih).seq hi
          have hq2 := (s.trans o.ih).seq hi2
          have en : ns[i]? = some ns[i] := List.getElem?_eq_getElem hlt.1
          have em : ms[i]? = some ms[i] := List.getElem?_eq_getElem hlt.2
          have hx : (ns.map V.int)[i]? = some (.int ns[i]) := by rw [List.getElem?_map, en]; rfl
          have hy : (ms.map V.int)[i]? = some (.int ms[i]) := by rw [List.getElem?_map, em]; rfl
          have ed : d = .tup [.int ns[i], .int ms[i]] := by
            unfold zipI at e
            rw [List.getElem?_map, List.getElem?_eq_getElem (by rw [List.length_zip]; omega), List.getElem_zip] at e
            cases e
            rfl
          subst ed
          refine ⟨⟨_, _, _, _, hq, hq2, hx, hy⟩, fun x H' y => ?_⟩
          obtain ⟨t, w, w2, rfl, ht, rfl, y1, y2⟩ := y
          have ex := y1 _ hq
          rw [hx] at ex
          cases ex
          have ey := y2 _ hq2
          rw [hy] at ey
          cases ey
          exact ⟨(T'.put t _).fix t _, rfl, (Grow.put o ht).fix ht (o.i_none ht) upd_same, .tup upd_same (.cons (.int _) (.cons (.int _) .nil))⟩
        · refine ⟨_, _, (s.trans o.ih).seq hi, (s.trans o.ih).seq hi2, ?_⟩
          have := List.getElem?_eq_none_iff.mp e
          unfold zipI at this
          rw [List.length_map, List.length_zip] at this
          rw [List.length_map, List.length_map]
          omega

/-! ### for, while -/
theorem drop_cons {α : Type} {xs : List α} {i : Nat} {x : α} (h : xs[i]? = some x) : xs.drop i = x :: xs.drop (i + 1) := by
  obtain ⟨h1, h2⟩ := List.getElem?_eq_some_iff.mp h
  rw [← h2]
  exact List.drop_eq_getElem_cons h1
/-- a for: inv holds of what is still to come and of the names -/
theorem js_for {tg iter : Expr} {body : List Stmt} (inv : List D → PEnv → Prop) (hi : JI X tg iter l ρ ds) (h0 : inv ds ρ)
    (hs : ∀ d rest ρ', inv (d :: rest) ρ' → ∃ ρ2, JG X tg l d ρ' ρ2 ∧ JSs X body { nx := inv rest, rt := P.rt, bk := P.nx, ct := inv rest } ρ2) (hd : ∀ ρ', inv [] ρ' → P.nx ρ')
    (hp : PassesOwn (model X.prog X.w) X.A X.env X.xe := by exact PassesOwn.never) (hc : X.calm = true := by rfl) (hf : ∀ x, foldedSetIterable iter X.env x = pure x := by exact fs_ns rfl) : JS X (.For tg iter body [] pos) P ρ :=
  JS.of (ps_for hp hc pi_w pg_w pss_w hf) fun T σ D F m => hi T σ _ F fun J T1 g1 W => by
    have F1 := F.grow g1
    refine ⟨fun i m σ H => m = ds.length - i ∧ i ≤ ds.length ∧ ∃ T2 ρ', T2.h = H ∧ Gw T1 T2 ∧ Fr X.K T2 σ ρ' ∧ inv (ds.drop i) ρ', ⟨ds.length, by simp, Nat.zero_le _, T1, ρ, rfl, Gw.refl g1.ok, F1, h0⟩, ?_⟩
    rintro i mm σ2 H2 ⟨rfl, hle, T2, ρ', rfl, gw, F2, hv⟩
    obtain ⟨w1, w2⟩ := W T2 i gw.xi gw.xn gw.ok
    cases e : ds[i]? with
    | none =>
      refine .inl ⟨w2 e, ?_⟩
      rw [List.drop_eq_nil_of_le (List.getElem?_eq_none_iff.mp e)] at hv
      exact m.nx ρ' σ2 T2 (g1.w.trans gw) F2 (hd ρ' hv)
    | some d =>
      obtain ⟨go, yld⟩ := w1 d e
      have hlt := (List.getElem?_eq_some_iff.mp e).1
      rw [drop_cons e] at hv
      obtain ⟨ρ2, hg, hb⟩ := hs d _ ρ' hv
      refine .inr ⟨go, fun σ3 H3 => ∃ T3 ρ3, T3.h = H3 ∧ Gw T1 T3 ∧ Fr X.K T3 σ3 ρ3 ∧ inv (ds.drop (i + 1)) ρ3, fun σ3 H3 ⟨T3, ρ3, e3, g3, F3, v3⟩ => ⟨ds.length - (i + 1), by omega, rfl, by omega, T3, ρ3, e3, g3, F3, v3⟩, fun x H' y => ?_⟩
      obtain ⟨T3, rfl, g3, r3⟩ := yld x H' y
      refine hg T3 σ2 x _ (F2.grow g3) r3 fun σ4 F4 => ?_
      have gg := gw.trans g3.w
      have g0 := g1.w.trans gg
      exact hb T3 σ4 _ F4 ⟨fun ρ5 σ5 T5 g5 F5 v5 => ⟨T5, ρ5, rfl, gg.trans g5, F5, v5⟩, fun d v T5 g5 => m.rt d v T5 (g0.trans g5), fun ρ5 σ5 T5 g5 F5 v5 => m.nx ρ5 σ5 T5 (g0.trans g5) F5 v5, fun ρ5 σ5 T5 g5 F5 v5 => ⟨T5, ρ5, rfl, gg.trans g5, F5, v5⟩, fun _ _ _ _ z => z.elim, fun _ _ _ _ _ _ _ z => z.elim⟩
/-- .. over ints -/
theorem js_forI {tg iter : Expr} {body : List Stmt} (inv : List Int → PEnv → Prop) (hi : JI X tg iter l ρ (ns.map D.int)) (h0 : inv ns ρ)
    (hs : ∀ n rest ρ', inv (n :: rest) ρ' → ∃ ρ2, JG X tg l (.int n) ρ' ρ2 ∧ JSs X body { nx := inv rest, rt := P.rt, bk := P.nx, ct := inv rest } ρ2) (hd : ∀ ρ', inv [] ρ' → P.nx ρ')
    (hp : PassesOwn (model X.prog X.w) X.A X.env X.xe := by exact PassesOwn.never) (hc : X.calm = true := by rfl) (hf : ∀ x, foldedSetIterable iter X.env x = pure x := by exact fs_ns rfl) : JS X (.For tg iter body [] pos) P ρ :=
  js_for (fun ds ρ' => ∃ ns : List Int, ds = ns.map D.int ∧ inv ns ρ') hi ⟨ns, rfl, h0⟩ (fun d rest ρ' ⟨ns', e, v⟩ => by
    cases ns' with
    | nil => cases e
    | cons n r =>
      rw [List.map_cons] at e
      cases e
      obtain ⟨ρ2, h1, h2⟩ := hs n r ρ' v
      exact ⟨ρ2, h1, h2.imp (fun ρ3 q => ⟨r, rfl, q⟩) (fun _ q => q) (fun _ q => q) (fun ρ3 q => ⟨r, rfl, q⟩) (fun _ q => q) (fun _ _ q => q)⟩) (fun ρ' ⟨ns', e, v⟩ => by
    cases ns' with
    | nil => exact hd ρ' v
    | cons n r => cases e) hp hc hf
theorem js_while {body : List Stmt} (inv : PEnv → Prop) (μ : PEnv → Nat) (h0 : inv ρ)
    (hs : ∀ ρ', inv ρ' → ∃ v, JT X c ρ' v ∧ (v = true → JSs X body { nx := fun ρ2 => inv ρ2 ∧ μ ρ2 < μ ρ', rt := P.rt, bk := P.nx, ct := fun ρ2 => inv ρ2 ∧ μ ρ2 < μ ρ' } ρ') ∧ (v = false → P.nx ρ'))
    (hp : PassesOwn (model X.prog X.w) X.A X.env X.xe := by exact PassesOwn.never) : JS X (.While c body [] pos) P ρ :=
  JS.of (ps_while hp pt_w pss_w) fun T σ D F m => by
    refine ⟨fun mm σ H => ∃ T2 ρ', mm = μ ρ' ∧ T2.h = H ∧ Gw T T2 ∧ Fr X.K T2 σ ρ' ∧ inv ρ', ⟨_, T, ρ, rfl, rfl, Gw.refl F.ok, F, h0⟩, ?_⟩
    rintro mm σ2 H2 ⟨T2, ρ', rfl, rfl, gw, F2, hv⟩
    obtain ⟨v, ht, hb, he⟩ := hs ρ' hv
    refine ht T2 σ2 _ F2 fun T3 g3 => ?_
    have g := gw.trans g3.w
    cases v with
    | false => exact iteF (m.nx ρ' σ2 T3 g (F2.grow g3) (he rfl))
    | true =>
      refine iteT ⟨fun σ' H' => ∃ T4 ρ4, T4.h = H' ∧ Gw T T4 ∧ Fr X.K T4 σ' ρ4 ∧ inv ρ4 ∧ μ ρ4 < μ ρ', fun σ' H' ⟨T4, ρ4, e4, g4, F4, v4, l4⟩ => ⟨_, l4, T4, ρ4, rfl, e4, g4, F4, v4⟩, ?_⟩
      exact hb rfl T3 σ2 _ (F2.grow g3) ⟨fun ρ5 σ5 T5 g5 F5 v5 => ⟨T5, ρ5, rfl, g.trans g5, F5, v5⟩, fun d v T5 g5 => m.rt d v T5 (g.trans g5), fun ρ5 σ5 T5 g5 F5 v5 => m.nx ρ5 σ5 T5 (g.trans g5) F5 v5, fun ρ5 σ5 T5 g5 F5 v5 => ⟨T5, ρ5, rfl, g.trans g5, F5, v5⟩, fun _ _ _ _ z => z.elim, fun _ _ _ _ _ _ _ z => z.elim⟩

/-! ### comprehensions -/
abbrev Blk (X : Cx) (s : Shared) (H : Hp) (scope : Scope) (C : Addr) (cl : List (Str × Addr)) (fp : List Addr) : Cx := X.blk s H scope (compEnvC scope cl C X.env) fp
/-- .. the names of the block forgotten -/
def wipeE (ρ : PEnv) (n : Nat) : PEnv := ρ.set n none
theorem Fr.wipe {K : PySem.W.Frag} {T : W3} {σ : L2.St} (F : Fr K T σ ρ) (n : Nat) : Fr K T (L2.wipe σ [n]) (wipeE ρ n) := by
  have e : L2.wipe σ [n] = σ.set n none := rfl
  have get : ∀ {j : Nat} {e' : E}, (wipeE ρ n)[j]? = some (some e') → n ≠ j ∧ ρ[j]? = some (some e') := fun {j e'} h => by
    rcases getset h with ⟨_, q⟩ | q
    · cases q
    · exact q
  rw [e]
  refine ⟨F.ok, by rw [wipeE, List.length_set, List.length_set, F.len], fun j e' h => ?_, fun j k e' e2 a h1 h2 o1 o2 s1 s2 => ?_, fun j k e' e2 a h1 h2 => F.sepT j k e' e2 a (get h1).2 (get h2).2, fun j k e' e2 a h1 h2 m1 o2 s2 => ?_⟩
  · obtain ⟨h1, h2⟩ := get h
    obtain ⟨v, q1, q2⟩ := F.val j e' h2
    exact ⟨v, by rw [List.getElem?_set_ne h1]; exact q1, q2⟩
  · obtain ⟨n1, h1⟩ := get h1
    obtain ⟨n2, h2⟩ := get h2
    rw [List.getElem?_set_ne n1] at s1
    rw [List.getElem?_set_ne n2] at s2
    exact F.sep j k e' e2 a h1 h2 o1 o2 s1 s2
  · obtain ⟨n2, h2⟩ := get h2
    rw [List.getElem?_set_ne n2] at s2
    exact F.sepO j k e' e2 a (get h1).2 h2 m1 o2 s2
end
end Lf

set_option Elab.async false
set_option linter.all false
set_option maxRecDepth 100000
set_option maxHeartbeats 2000000
set_option autoImplicit false
namespace Lf
open PySem L2
section
variable {X : Cx} {e a b c : Expr} {es : List Expr} {ρ ρ1 : PEnv} {d d1 d2 d3 : D} {l la lb lc : Lv} {pos p p2 : Pos} {i j k : Int} {ns ms : List Int} {ds fs : List D} {kt : Nat} {x y z : Str} {st : Stmt} {sts : List Stmt} {P : PEnds}
/-! ### comprehensions -/
def wTs (X : Cx) (ifs : List Expr) : TT := fun σ H Q => ∀ pins s, Inv X pins σ H s →
    wpAny (model X.prog X.w) X.A (forIn ifs true fun c r => if r = true then do let ok ← isTrue c X.env (eval c X.env); pure (ForInStep.yield ok) else pure (ForInStep.yield r)) (TP X pins σ Q) X.xe s
theorem pts_w {ifs : List Expr} : PTs X ifs (wTs X ifs) := ⟨fun pins s σ H Q I h => h pins s I⟩
def JTs (X : Cx) (ifs : List Expr) (ρ : PEnv) (v : Bool) : Prop :=
  ∀ (T : W3) (σ : L2.St) (Q : Bool → Hp → Prop), Fr X.K T σ ρ → (∀ T', Grow T T' → Q v T'.h) → wTs X ifs σ T.h Q
theorem jts_nil : JTs X [] ρ true := fun T σ Q F q pins s I => pts_nil.run pins s σ T.h Q I (q T (Grow.refl F.ok))
theorem jts_one {v : Bool} (h : JT X c ρ v) : JTs X [c] ρ v := fun T σ Q F q pins s I => (pts_one pt_w).run pins s σ T.h Q I (h T σ Q F q)
variable {scope : Scope} {elt tg iter : Expr} {ifs : List Expr}
/-- an item is bound to the target in a block: the slot's value alone is new -/
def JGb (X : Cx) (tg : Expr) (l : Lv) (d : D) (own : List Nat) (ρ ρ' : PEnv) : Prop :=
  ∀ (T : W3) (σ : L2.St) (v : V) (Q : L2.St → Hp → Prop), Fr X.K T σ ρ → Rp X.K (T.at l) v d → (∀ σ', L2.wipe σ' own = L2.wipe σ own → Fr X.K T σ' ρ' → Q σ' T.h) → wG X tg v σ T.h Q
def wipeL (ρ : PEnv) : List Nat → PEnv
  | [] => ρ
  | n :: r => wipeE (wipeL ρ r) n
theorem Fr.wipeL {K : PySem.W.Frag} {T : W3} {σ : L2.St} (F : Fr K T σ ρ) : ∀ (own : List Nat), Fr K T (L2.wipe σ own) (Lf.wipeL ρ own)
  | [] => F
  | n :: r => (Fr.wipeL F r).wipe n
/-- the reading of a comprehension -/
theorem lc_run {own : List Nat} {tt : TT} {te : TE} {g : TG} {wi : TI} {l' : Lv} {Tst : D → Bool} {f : D → D} {ρd : D → PEnv} (hl' : Lv.le l' .imm = true)
    (hi : ∀ (T : W3) (σ : L2.St) (R : It → Hp → Prop), Fr X.K T σ ρ → (∀ J T', Grow T T' → Walks X.K T' J l ds → R J T'.h) → wi σ T.h R)
    (hg : ∀ d, d ∈ ds → ∀ (T : W3) (σ : L2.St) (v : V) (Q : L2.St → Hp → Prop), Fr X.K T σ (wipeL ρ own) → Rp X.K (T.at l) v d → (∀ σ', L2.wipe σ' own = L2.wipe σ own → Fr X.K T σ' (ρd d) → Q σ' T.h) → g v σ T.h Q)
    (ht : ∀ d, d ∈ ds → ∀ (T : W3) (σ : L2.St) (Q : Bool → Hp → Prop), Fr X.K T σ (ρd d) → (∀ T', Grow T T' → Q (Tst d) T'.h) → tt σ T.h Q)
    (he : ∀ d, d ∈ ds → Tst d = true → ∀ (T : W3) (σ : L2.St) (Q : VK), Fr X.K T σ (ρd d) → (∀ v T', Grow T T' → Rp X.K (T'.at l') v (f d) → Q v T'.h) → te σ T.h Q)
    (hz : ds.length ≤ 100000) (T : W3) (σ : L2.St) (Q : VK) (F : Fr X.K T σ ρ)
    (q : ∀ a vs T', Grow T T' → T.h a = none → T'.i a = none → T'.h a = some (.lst vs) → RpAll X.K (T'.at l') vs ((ds.filter Tst).map f) → Q (.ref a) T'.h) : tLc wi g tt te own σ T.h Q := by
  refine hi T σ _ F fun J T1 g1 W => ?_
  intro D0 hD
  have F1 := (F.grow g1)
  have hww : L2.wipe (L2.wipe σ own) own = L2.wipe σ own := by
    have key : ∀ (own : List Nat) (σ : L2.St) (n : Nat), L2.wipe (σ.set n none) own = (L2.wipe σ own).set n none := by
      intro own
      induction own with
      | nil => intro σ n; rfl
      | cons v r ih =>
        intro σ n
        show (L2.wipe (σ.set n none) r).set v none = ((L2.wipe σ r).set v none).set n none
        rw [ih]
        by_cases e : n = v
        · subst e; rfl
        · rw [List.set_comm _ _ e]
    have key2 : ∀ (own : List Nat) (σ : L2.St), L2.wipe (L2.wipe σ own) own = L2.wipe σ own := by
      intro own
      induction own with
      | nil => intro σ; rfl
      | cons v r ih =>
        intro σ
        show (L2.wipe ((L2.wipe σ r).set v none) r).set v none = (L2.wipe σ r).set v none
        rw [key, ih, List.set_set]
    exact key2 own σ
  refine ⟨fun i m H => m = ds.length - i ∧ i ≤ ds.length ∧ ∃ T2 vs, T2.h = H ∧ Gs T1 T2 ∧ Same T1.h T2.h ∧ Fr X.K T2 σ ρ ∧ T2.i D0 = none ∧ T2.h D0 = some (.lst vs) ∧ RpAll X.K (T2.at l') vs (((ds.take i).filter Tst).map f),
    ⟨ds.length, by simp, Nat.zero_le _, T1.put D0 (.lst []), [], rfl, (Grow.put g1.ok hD).s, same_new hD, F1.put (g1.ok.i_none hD) (F1.fresh hD), g1.ok.i_none hD, upd_same, .nil⟩, ?_⟩
  rintro i m H2 ⟨rfl, hle, T2, vs, rfl, gw, sh, F2, hDi, hDh, rr⟩
  obtain ⟨w1, w2⟩ := W T2 i gw.xi gw.xn gw.ok
  have hD2 : T.h D0 = none := Same.free g1.ex hD
  cases e : ds[i]? with
  | none =>
    refine .inl ⟨w2 e, ?_⟩
    rw [List.take_of_length_le (List.getElem?_eq_none_iff.mp e)] at rr
    exact q D0 vs T2 ⟨gw.ok, g1.ex.trans sh, g1.xi.trans gw.xi, g1.xn.trans gw.xn, fun a h1 h2 => gw.fi a (g1.fi a h1 h2) (Same.some g1.ex h2), fun a h1 h2 => gw.fn a (g1.fn a h1 h2) (Same.some g1.ex h2)⟩ hD2 hDi hDh rr
  | some d =>
    obtain ⟨go, yld⟩ := w1 d e
    have hlt := (List.getElem?_eq_some_iff.mp e).1
    have hmem : d ∈ ds := List.mem_of_getElem? e
    have htake : ds.take (i + 1) = ds.take i ++ [d] := by rw [List.take_add_one, e]; rfl
    refine .inr ⟨go, fun H3 => ∃ T3 vs3, T3.h = H3 ∧ Gs T1 T3 ∧ Same T1.h T3.h ∧ Fr X.K T3 σ ρ ∧ T3.i D0 = none ∧ T3.h D0 = some (.lst vs3) ∧ RpAll X.K (T3.at l') vs3 (((ds.take (i + 1)).filter Tst).map f),
      fun H3 ⟨T3, vs3, h⟩ => ⟨ds.length - (i + 1), by omega, rfl, by omega, T3, vs3, h⟩, fun x H' yv => ?_⟩
    obtain ⟨T3, rfl, g3, r3⟩ := yld x H' yv
    have F3 := F2.grow g3
    refine hg d hmem T3 (L2.wipe σ own) x _ (F3.wipeL own) r3 fun σ4 hw F4 => ⟨by rw [hw, hww], ?_⟩
    refine ht d hmem T3 σ4 _ F4 fun T5 g5 => ?_
    have g35 := g3.trans g5
    cases ev : Tst d with
    | false =>
      refine iteF ⟨T5, vs, rfl, gw.trans g35.s, sh.trans g35.ex, F2.grow g35, g35.fi D0 hDi (by rw [hDh]; intro z; cases z), g35.ex _ _ hDh, ?_⟩
      rw [htake, List.filter_append, List.filter_cons_of_neg (by rw [ev]; exact Bool.false_ne_true), List.filter_nil, List.append_nil]
      exact rr.mono (g35.at l')
    | true =>
      refine iteT (he d hmem ev T5 σ4 _ (F4.grow g5) fun v T6 g6 r6 => ?_)
      have g36 := g35.trans g6
      have hDi6 := g36.fi D0 hDi (by rw [hDh]; intro z; cases z)
      have hDh6 := g36.ex _ _ hDh
      have nz : (((ds.take i).filter Tst).map f).length ≤ i := by
        rw [List.length_map]
        exact Nat.le_trans (List.length_filter_le _ _) (by rw [List.length_take]; omega)
      refine ⟨vs, hDh6, by rw [rr.length]; exact small_lt (by omega), T6.put D0 (.lst (vs ++ [v])), vs ++ [v], rfl, (gw.trans g36.s).trans (Gs.put g36.ok hDi6), ?_, ?_, hDi6, upd_same, ?_⟩
      · exact same_into (sh.trans g36.ex) hD
      · refine (F2.grow g36).put hDi6 (F1.fresh hD)
      · rw [htake, List.filter_append, List.filter_cons_of_pos ev, List.filter_nil, List.map_append]
        have z := (rr.mono (g36.at l')).append (.cons r6 .nil)
        cases l' with
        | full => cases hl'
        | imm => exact z
        | frs => exact z
/-- the block's names: one, bound to the item -/
theorem jgb_name {Y : Cx} (n : Nat) (hN : Y.N.Nodup) (hl : l ≠ .full := by decide) (hi : Y.N[n]? = some x := by rfl) (hx : Loc Y.env.scope x := by first | exact Or.inl rfl | exact Or.inr rfl) (hf : Y.fn x = true ∨ Y.env.scope.names.lookup x = some .local := by first | exact Or.inr rfl | exact Or.inl rfl) :
    JGb Y (.Name x p) l d [n] ρ (ρ.set n (some (.v l d))) := fun T σ v Q F r q pins s u I rv => (pg_name (i := n) hN hi hx hf).run pins s σ T.h v u Q I rv (q _ (by
      show (σ.set n (some v)).set n none = σ.set n none
      rw [List.set_set]) (F.set hl r))
theorem jgb_pair {Y : Cx} (n m : Nat) {px py : Pos} {k1 : Nat} (hN : Y.N.Nodup) (hl : l ≠ .full := by decide) (hi : Y.N[n]? = some x := by rfl) (hj : Y.N[m]? = some y := by rfl) (hx : Loc Y.env.scope x := by first | exact Or.inl rfl | exact Or.inr rfl) (hy : Loc Y.env.scope y := by first | exact Or.inl rfl | exact Or.inr rfl)
    (hf : Y.fn x = true ∨ Y.env.scope.names.lookup x = some .local := by first | exact Or.inr rfl | exact Or.inl rfl) (hf2 : Y.fn y = true ∨ Y.env.scope.names.lookup y = some .local := by first | exact Or.inr rfl | exact Or.inl rfl) (hc : Y.calm = true := by rfl)
    (hs1 : (assignEach [.Name x px, .Name y py] Y.env).map (·.2) = assign (.Name x px) Y.env :: (assignEach [.Name y py] Y.env).map (·.2) := by rfl) (hs2 : (assignEach [.Name y py] Y.env).map (·.2) = assign (.Name y py) Y.env :: (assignEach [] Y.env).map (·.2) := by rfl)
    (hn : (assignEach [.Name x px, .Name y py] Y.env).length = 2 := by rfl) (hst : (assignEach [.Name x px, .Name y py] Y.env).findIdx? (·.1) = none := by rfl) :
    JGb Y (.Tuple [.Name x px, .Name y py] k1 p) l (.tup [d1, d2]) [n, m] ρ ((ρ.set n (some (.v l d1))).set m (some (.v l d2))) := fun T σ v Q F r q pins s u I rv => by
  cases r with
  | tup h rr =>
    have h := SqT.of (K := Y.K) h
    cases rr with
    | cons r1 rr =>
      cases rr with
      | cons r2 rr =>
        cases rr
        refine (pg_tup hc (pgs_cons (pg_name (i := n) hN hi hx hf) (pgs_cons (pg_name (i := m) hN hj hy hf2) pgs_nil hs2) hs1) hn hst).run pins s σ T.h _ u Q I rv
          ⟨_, _, rfl, seqT F.ok.full h, rfl, _, _, rfl, _, _, rfl, rfl, q _ ?_ ((F.set hl r1).set hl r2)⟩
        show (((σ.set n _).set m _).set m none).set n none = (σ.set m none).set n none
        rw [List.set_set]
        by_cases e : n = m
        · subst e; simp only [List.set_set]
        · rw [List.set_comm _ _ e, List.set_set]
theorem jo_lc {own : List (Str × Nat)} {l' : Lv} {Tst : D → Bool} {f : D → D} {ρd : D → PEnv} (hi : JI X tg iter l ρ ds)
    (hg : ∀ d, d ∈ ds → ∀ s H C cl fp, JGb (Blk X s H scope C cl fp) tg l d (own.map (·.2)) (wipeL ρ (own.map (·.2))) (ρd d))
    (ht : ∀ d, d ∈ ds → ∀ s H C cl fp, JTs (Blk X s H scope C cl fp) ifs (ρd d) (Tst d))
    (he : ∀ d, d ∈ ds → Tst d = true → ∀ s H C cl fp, JE (Blk X s H scope C cl fp) l' elt (ρd d) (f d)) (hN : X.N.Nodup) (ok : BlkOk X.N X.env.scope scope own) (hz : ds.length ≤ 100000) (hl' : Lv.le l' .imm = true := by rfl) (hc : X.calm = true := by rfl)
    (hs : ∀ x, foldedSetIterable iter X.env x = pure x := by exact fs_ns rfl) : JO X l' (.ListComp elt [⟨tg, iter, ifs, 0⟩] scope pos) ρ ((ds.filter Tst).map f) :=
  JO.of (pe_lc (own := own) (g := fun v σ H Q => ∀ s H0 C cl fp, wG (Blk X s H0 scope C cl fp) tg v σ H Q) (tt := fun σ H Q => ∀ s H0 C cl fp, wTs (Blk X s H0 scope C cl fp) ifs σ H Q) (te := fun σ H Q => ∀ s H0 C cl fp, wE (Blk X s H0 scope C cl fp) elt σ H Q) hc hN pi_w ok
      (fun s H C cl fp => ⟨fun pins s' σ H' v u Q I r h => h s H C cl fp pins s' u I r⟩) (fun s H C cl fp => ⟨fun pins s' σ H' Q I h => h s H C cl fp pins s' I⟩) (fun s H C cl fp => ⟨fun pins s' σ H' Q I h => h s H C cl fp pins s' I⟩) hs)
    (lc_run hl' hi (fun d hd T σ v Q F r q s H C cl fp => hg d hd s H C cl fp T σ v Q F r q) (fun d hd T σ Q F q s H C cl fp => ht d hd s H C cl fp T σ Q F q) (fun d hd ht' T σ Q F q s H C cl fp => he d hd ht' s H C cl fp T σ Q F q) hz)
theorem joi_of {f : D → Int} (h : JO X l e ρ (ds.map fun d => .int (f d))) : JOI X e ρ (ds.map f) := fun T σ Q F q => h T σ Q F fun a vs T' g h0 hi hh r => by
  have e : vs = (ds.map f).map V.int := by
    rw [show (ds.map fun d => D.int (f d)) = (ds.map f).map D.int by rw [List.map_map]; rfl] at r
    exact r.of_il
  subst e
  exact q a T' g h0 hi hh
/-- over ints, one name; the items ints -/
theorem joi_lcI {x : Str} {n : Nat} {Tst : Int → Bool} {f : Int → Int} (hi : JI X tg iter .frs ρ (ns.map D.int))
    (hg : ∀ k s H C cl fp, JGb (Blk X s H scope C cl fp) tg .frs (.int k) [n] (wipeE ρ n) ((wipeE ρ n).set n (some (.v .frs (.int k)))))
    (ht : ∀ k, k ∈ ns → ∀ s H C cl fp, JTs (Blk X s H scope C cl fp) ifs ((wipeE ρ n).set n (some (.v .frs (.int k)))) (Tst k))
    (he : ∀ k, k ∈ ns → Tst k = true → ∀ s H C cl fp, JE (Blk X s H scope C cl fp) .frs elt ((wipeE ρ n).set n (some (.v .frs (.int k)))) (.int (f k))) (hN : X.N.Nodup) (ok : BlkOk X.N X.env.scope scope [(x, n)]) (hz : ns.length ≤ 100000) (hc : X.calm = true := by rfl)
    (hs : ∀ x, foldedSetIterable iter X.env x = pure x := by exact fs_ns rfl) : JOI X (.ListComp elt [⟨tg, iter, ifs, 0⟩] scope pos) ρ ((ns.filter Tst).map f) := by
  have unI : ∀ d, d ∈ ns.map D.int → ∃ k, k ∈ ns ∧ d = .int k := fun d h => by
    obtain ⟨k, hk, e⟩ := List.mem_map.mp h
    exact ⟨k, hk, e.symm⟩
  let toI : D → Int := fun d => match d with | .int k => k | _ => 0
  have z := jo_lc (pos := pos) (own := [(x, n)]) (l' := .frs) (Tst := fun d => Tst (toI d)) (f := fun d => .int (f (toI d))) (ρd := fun d => (wipeE ρ n).set n (some (.v .frs d))) (elt := elt) (ifs := ifs) (scope := scope) hi
    (fun d hd s H C cl fp => by obtain ⟨k, hk, rfl⟩ := unI d hd; exact hg k s H C cl fp)
    (fun d hd s H C cl fp => by obtain ⟨k, hk, rfl⟩ := unI d hd; exact ht k hk s H C cl fp)
    (fun d hd e s H C cl fp => by obtain ⟨k, hk, rfl⟩ := unI d hd; exact he k hk e s H C cl fp) hN ok (by rw [List.length_map]; exact hz) rfl hc hs
  have e : (((ns.map D.int).filter fun d => Tst (toI d)).map fun d => f (toI d)) = (ns.filter Tst).map f := by
    rw [List.filter_map, List.map_map]
    rfl
  rw [← e]
  exact joi_of z
/-- .. the items of any kind -/
theorem jo_lcI {x : Str} {n : Nat} {l' : Lv} {Tst : Int → Bool} {f : Int → D} (hi : JI X tg iter .frs ρ (ns.map D.int))
    (hg : ∀ k s H C cl fp, JGb (Blk X s H scope C cl fp) tg .frs (.int k) [n] (wipeE ρ n) ((wipeE ρ n).set n (some (.v .frs (.int k)))))
    (ht : ∀ k, k ∈ ns → ∀ s H C cl fp, JTs (Blk X s H scope C cl fp) ifs ((wipeE ρ n).set n (some (.v .frs (.int k)))) (Tst k))
    (he : ∀ k, k ∈ ns → Tst k = true → ∀ s H C cl fp, JE (Blk X s H scope C cl fp) l' elt ((wipeE ρ n).set n (some (.v .frs (.int k)))) (f k)) (hN : X.N.Nodup) (ok : BlkOk X.N X.env.scope scope [(x, n)]) (hz : ns.length ≤ 100000) (hl' : Lv.le l' .imm = true := by rfl) (hc : X.calm = true := by rfl)
    (hs : ∀ x, foldedSetIterable iter X.env x = pure x := by exact fs_ns rfl) : JO X l' (.ListComp elt [⟨tg, iter, ifs, 0⟩] scope pos) ρ ((ns.filter Tst).map f) := by
  have unI : ∀ d, d ∈ ns.map D.int → ∃ k, k ∈ ns ∧ d = .int k := fun d h => by
    obtain ⟨k, hk, e⟩ := List.mem_map.mp h
    exact ⟨k, hk, e.symm⟩
  let toI : D → Int := fun d => match d with | .int k => k | _ => 0
  have z := jo_lc (pos := pos) (own := [(x, n)]) (l' := l') (Tst := fun d => Tst (toI d)) (f := fun d => f (toI d)) (ρd := fun d => (wipeE ρ n).set n (some (.v .frs d))) (elt := elt) (ifs := ifs) (scope := scope) hi
    (fun d hd s H C cl fp => by obtain ⟨k, hk, rfl⟩ := unI d hd; exact hg k s H C cl fp)
    (fun d hd s H C cl fp => by obtain ⟨k, hk, rfl⟩ := unI d hd; exact ht k hk s H C cl fp)
    (fun d hd e s H C cl fp => by obtain ⟨k, hk, rfl⟩ := unI d hd; exact he k hk e s H C cl fp) hN ok (by rw [List.length_map]; exact hz) hl' hc hs
  have e : (((ns.map D.int).filter fun d => Tst (toI d)).map fun d => f (toI d)) = (ns.filter Tst).map f := by
    rw [List.filter_map, List.map_map]
    rfl
  rw [← e]
  exact z
/-- y = [..] -/
theorem js_setLcAny (m : Nat) {own : List (Str × Nat)} {l' : Lv} {Tst : D → Bool} {f : D → D} {ρd : D → PEnv} {py : Pos} {spos : Pos} (hi : JI X tg iter l ρ ds)
    (hg : ∀ d, d ∈ ds → ∀ s H C cl fp, JGb (Blk X s H scope C cl fp) tg l d (own.map (·.2)) (wipeL ρ (own.map (·.2))) (ρd d))
    (ht : ∀ d, d ∈ ds → ∀ s H C cl fp, JTs (Blk X s H scope C cl fp) ifs (ρd d) (Tst d))
    (he : ∀ d, d ∈ ds → Tst d = true → ∀ s H C cl fp, JE (Blk X s H scope C cl fp) l' elt (ρd d) (f d)) (hN : X.N.Nodup) (ok : BlkOk X.N X.env.scope scope own) (hz : ds.length ≤ 100000)
    (hdone : ∀ (T : W3) (σ : L2.St) a vs (T0 : W3), Fr X.K T0 σ ρ → Grow T0 T → T0.h a = none → T.i a = none → T.h a = some (.lst vs) → RpAll X.K (T.at l') vs ((ds.filter Tst).map f) → ∃ T' ρ', T'.h = T.h ∧ Gw T0 T' ∧ Fr X.K T' (σ.set m (some (.ref a))) ρ' ∧ P.nx ρ')
    (hy : X.N[m]? = some y := by rfl) (hyl : X.env.scope.names.lookup y = some .local := by rfl) (hsw : swapsWith (.ListComp elt [⟨tg, iter, ifs, 0⟩] scope pos) (some (.Name y py)) spos.line X.env = pure true := by exact sw_true rfl rfl rfl (by decide +kernel))
    (hl' : Lv.le l' .imm = true := by rfl) (hc : X.calm = true := by rfl) (hs : ∀ x, foldedSetIterable iter X.env x = pure x := by exact fs_ns rfl) : JS X (.Assign [.Name y py] (.ListComp elt [⟨tg, iter, ifs, 0⟩] scope pos) spos) P ρ :=
  JS.of (ps_setLc (i := m) (own := own) (g := fun v σ H Q => ∀ s H0 C cl fp, wG (Blk X s H0 scope C cl fp) tg v σ H Q) (tt := fun σ H Q => ∀ s H0 C cl fp, wTs (Blk X s H0 scope C cl fp) ifs σ H Q) (te := fun σ H Q => ∀ s H0 C cl fp, wE (Blk X s H0 scope C cl fp) elt σ H Q) hc hN hy hyl hsw pi_w ok
      (fun s H C cl fp => ⟨fun pins s' σ H' v u Q I r h => h s H C cl fp pins s' u I r⟩) (fun s H C cl fp => ⟨fun pins s' σ H' Q I h => h s H C cl fp pins s' I⟩) (fun s H C cl fp => ⟨fun pins s' σ H' Q I h => h s H C cl fp pins s' I⟩) hs)
    fun T σ D F mm => lc_run (Q := fun x H1 => gName m x σ H1 D.nx) hl' hi (fun d hd T σ v Q F r q s H C cl fp => hg d hd s H C cl fp T σ v Q F r q) (fun d hd T σ Q F q s H C cl fp => ht d hd s H C cl fp T σ Q F q) (fun d hd ht' T σ Q F q s H C cl fp => he d hd ht' s H C cl fp T σ Q F q) hz T σ F
      fun a vs T' g h0 hi' hh r => by
        obtain ⟨T2, ρ', e, g2, F2, n2⟩ := hdone T' σ a vs T F g h0 hi' hh r
        show D.nx (σ.set m (some (.ref a))) T'.h
        rw [← e]
        exact mm.nx ρ' _ T2 g2 F2 n2
end
end Lf

set_option Elab.async false
set_option linter.all false
set_option maxRecDepth 100000
set_option maxHeartbeats 2000000
set_option autoImplicit false
/-- the items that a slice with a step picks -/
def Lf.stepL {α : Type} (xs : List α) (lo hi st : Option Int) : List α :=
  (PySem.sliceRange (PySem.sliceBounds lo hi st xs.length).1 (PySem.sliceBounds lo hi st xs.length).2.1 (PySem.sliceBounds lo hi st xs.length).2.2).filterMap (xs[·]?)
theorem Lf.stepL_map {α β : Type} (f : α → β) (xs : List α) (lo hi st : Option Int) : Lf.stepL (xs.map f) lo hi st = (Lf.stepL xs lo hi st).map f := by
  unfold Lf.stepL
  rw [List.length_map, List.map_filterMap]
  congr 1
  funext i
  rw [List.getElem?_map]
namespace L2
open PySem PySem.Spec PyProof.Rows
theorem Vals.pick {xs : List V} {us : List Value} (r : Vals xs us) : ∀ ix : List Nat, Vals (ix.filterMap (xs[·]?)) (ix.filterMap (us[·]?))
  | [] => .nil
  | i :: t => by
    have ih := Vals.pick r t
    cases e : xs[i]? with
    | none =>
      rw [List.filterMap_cons_none e, List.filterMap_cons_none (r.none_of e)]
      exact ih
    | some x =>
      obtain ⟨u, e2, rx⟩ := r.get e
      rw [List.filterMap_cons_some e, List.filterMap_cons_some e2]
      exact .cons rx ih
def tStepL (K : PySem.W.Frag) (te : TE) (lo : Option Int) (st : Int) : TE := fun σ H Q => te σ H fun x H1 => ∃ a xs, x = .ref a ∧ SqL K H1 a xs ∧ (Lf.stepL xs lo none (some st)).length ≤ sizeLine ∧ ∀ p, H1 p = none → Q (.ref p) (upd H1 p (.lst (Lf.stepL xs lo none (some st))))
section
variable {X : Cx}
theorem pe_stepL {e : Expr} {te : TE} {lo : Option Expr} {ol : Option Int} {k : Nat} {st : Int} {p1 p3 pos : Pos} (he : PE X e te) (hlo : PO X lo fun _ H Q => Q ol H) (h0 : st ≠ 0) : PE X (.Subscript e (.Slice lo none (some (.Constant (.int st) k p1)) p3) pos) (tStepL X.K te ol st) := by
  refine ⟨fun pins s σ H Q I h => ?_⟩
  refine Subscript_ (thn (he.run pins s σ H _ I h) fun v s1 ⟨x, H1, I1, r1, q1⟩ => ?_)
  obtain ⟨a, xs, ex, hx, hzz, q⟩ := q1
  subst ex
  cases r1
  have hst : PO X (some (.Constant (.int st) k p1)) (tPart (tC (.int st))) := po_some pe_int
  refine wpAny_Slice (thn (hlo.run pins s1 σ H1 (fun o H2 => o = ol ∧ H2 = H1) I1 ⟨rfl, rfl⟩) fun vl s2 ⟨l, H2, I2, pl, el, e2⟩ => ?_)
  subst el e2
  refine thn (po_none.run pins s2 σ H2 (fun o H3 => o = none ∧ H3 = H2) I2 ⟨rfl, rfl⟩) fun vu s3 ⟨u, H3, I3, pu, eu, e3⟩ => ?_
  subst eu e3
  refine thn (hst.run pins s3 σ H3 (fun o H4 => o = some st ∧ H4 = H3) I3 ⟨st, rfl, rfl, rfl⟩) fun vs s4 ⟨o, H4, I4, ps, eo, e4⟩ => ?_
  subst eo e4
  have I5 : Inv X pins σ H4 { s4 with heap := s4.heap.push { cls := .type "slice", data := .fields #[vl, vu, vs] } } := I4.kept (t' := s4.toks) fun b ob q => Heap.get?_push_of_some _ q
  obtain ⟨its, r, ht, hz⟩ := I5.list hx
  have hlen := r.length
  show wpAny (model X.prog X.w) X.A (subscriptTail e (.Slice lo none (some (.Constant (.int st) k p1)) p3) (.ref a) (.ref s4.heap.objs.size)) (EP X pins σ Q) X.xe { s4 with heap := s4.heap.push { cls := .type "slice", data := .fields #[vl, vu, vs] } }
  refine tail_any (ops := [.ref a, .ref s4.heap.objs.size]) ht.isList.typeIs (PySem.slot_list_getitem.lookup) ?_ (by with_unfolding_all rfl)
  refine wpAny_getItem_list_slice ht.isList (Heap.IsSliceOf.new _ vl vu vs) pl pu ps (by intro z; exact h0 (Option.some.inj z)) ?_ (by rw [List.size_toArray]; omega)
  have ep : slicePick its.toArray l none (some st) = (Lf.stepL its l none (some st)).toArray := by
    unfold slicePick Lf.stepL
    simp
  rw [ep]
  have rv : Vals (Lf.stepL xs l none (some st)) (Lf.stepL its l none (some st)) := by
    unfold Lf.stepL
    rw [hlen]
    exact r.pick _
  refine ⟨.ref _, _, I5.laid (t' := s4.toks) (o := .lst (Lf.stepL xs l none (some st))) (fun b ob q => Heap.get?_push_of_some _ q) (Nat.le_refl _) ?_, rfl, q _ (I5.hok.fresh (Nat.le_refl _))⟩
  exact ⟨hzz, _, 0, rv, Heap.get?_push_size _ rfl⟩
end
end L2
namespace Lf
open PySem L2
section
variable {X : Cx} {e a b c : Expr} {es : List Expr} {ρ ρ1 : PEnv} {d d1 d2 d3 : D} {l la lb lc : Lv} {pos p p2 : Pos} {i j k : Int} {ns ms : List Int} {ds fs : List D} {kt : Nat} {x y z : Str} {st : Stmt} {sts : List Stmt} {P : PEnds}
theorem stepL_len {α : Type} (xs : List α) (lo : Option Int) {st : Int} (h : 0 < st) : (stepL xs lo none (some st)).length ≤ xs.length := by
  unfold stepL
  refine Nat.le_trans (List.length_filterMap_le _ _) ?_
  refine PySem.sliceRange_length_le _ _ _ _ (fun _ => ?_) (fun z => absurd h z)
  have hs : (some st).getD 1 > 0 := h
  unfold PySem.sliceBounds
  simp only [hs, if_true]
  cases lo with
  | none => simp
  | some i => simp only []; omega
/-- xs[::k], xs[i::k] -/
theorem joi_step {k : Nat} {s : Int} {p1 p3 : Pos} (ha : JE X la a ρ (.il ns)) (hs : 0 < s := by decide) (hz : ns.length ≤ 100000) : JOI X (.Subscript a (.Slice none none (some (.Constant (.int s) k p1)) p3) pos) ρ (stepL ns none none (some s)) :=
  JOI.of (pe_stepL pe_w po_none (by omega)) fun T σ Q F q => ha T σ _ F fun v T1 g1 r1 => by
    have r1' := r1.mono g1.ok.full
    cases r1' with
    | il h1 =>
      have h1 := SqL.of (K := X.K) h1
      refine ⟨_, _, rfl, h1, ?_, fun p hp => ?_⟩
      · rw [stepL_map, List.length_map]
        exact small_of (Nat.le_trans (stepL_len ns none hs) hz)
      · rw [stepL_map]
        exact q p (T1.put p _) (g1.trans (Grow.put g1.ok hp)) (Same.free g1.ex hp) (g1.ok.i_none hp) upd_same
theorem joi_stepF {k k2 : Nat} {s f : Int} {p0 p1 p3 : Pos} (ha : JE X la a ρ (.il ns)) (hs : 0 < s := by decide) (hz : ns.length ≤ 100000) : JOI X (.Subscript a (.Slice (some (.Constant (.int f) k2 p0)) none (some (.Constant (.int s) k p1)) p3) pos) ρ (stepL ns (some f) none (some s)) :=
  JOI.of (pe_stepL (ol := some f) pe_w ⟨fun pins s' σ H Q I h => (po_some pe_int).run pins s' σ H Q I ⟨f, rfl, h⟩⟩ (by omega)) fun T σ Q F q => ha T σ _ F fun v T1 g1 r1 => by
    have r1' := r1.mono g1.ok.full
    cases r1' with
    | il h1 =>
      have h1 := SqL.of (K := X.K) h1
      refine ⟨_, _, rfl, h1, ?_, fun p hp => ?_⟩
      · rw [stepL_map, List.length_map]
        exact small_of (Nat.le_trans (stepL_len ns _ hs) hz)
      · rw [stepL_map]
        exact q p (T1.put p _) (g1.trans (Grow.put g1.ok hp)) (Same.free g1.ex hp) (g1.ok.i_none hp) upd_same

/-! ### a name is bound to a comprehension's list -/
theorem js_lcV (m : Nat) {scope : Scope} {elt tg iter : Expr} {ifs : List Expr} {own : List (Str × Nat)} {l' : Lv} {Tst : D → Bool} {f : D → D} {ρd : D → PEnv} {py : Pos} {spos : Pos} (hi : JI X tg iter l ρ ds)
    (hg : ∀ d, d ∈ ds → ∀ s H C cl fp, JGb (Blk X s H scope C cl fp) tg l d (own.map (·.2)) (wipeL ρ (own.map (·.2))) (ρd d))
    (ht : ∀ d, d ∈ ds → ∀ s H C cl fp, JTs (Blk X s H scope C cl fp) ifs (ρd d) (Tst d))
    (he : ∀ d, d ∈ ds → Tst d = true → ∀ s H C cl fp, JE (Blk X s H scope C cl fp) l' elt (ρd d) (f d)) (h : P.nx (ρ.set m (some (.v l' (.lst ((ds.filter Tst).map f)))))) (hN : X.N.Nodup) (ok : BlkOk X.N X.env.scope scope own) (hz : ds.length ≤ 100000)
    (hy : X.N[m]? = some y := by rfl) (hyl : X.env.scope.names.lookup y = some .local := by rfl) (hsw : swapsWith (.ListComp elt [⟨tg, iter, ifs, 0⟩] scope pos) (some (.Name y py)) spos.line X.env = pure true := by exact sw_true rfl rfl rfl (by decide +kernel))
    (hl' : Lv.le l' .imm = true := by rfl) (hc : X.calm = true := by rfl) (hs : ∀ x, foldedSetIterable iter X.env x = pure x := by exact fs_ns rfl) : JS X (.Assign [.Name y py] (.ListComp elt [⟨tg, iter, ifs, 0⟩] scope pos) spos) P ρ :=
  js_setLcAny m hi hg ht he hN ok hz (fun T σ a vs T0 F g h0 hi hh r => by
    cases l' with
    | full => cases hl'
    | imm =>
      have G := g.fixI (o := .lst vs) h0 hi hh
      exact ⟨T.fixI a (.lst vs), _, rfl, G.w, (F.grow G).set (l := .imm) (by decide) (.lst (show upd T.i a _ a = _ from upd_same) (r.mono (same_new hi))), h⟩
    | frs =>
      have G := g.fix (o := .lst vs) h0 hi hh
      exact ⟨T.fix a (.lst vs), _, rfl, G.w, (F.grow G).set (l := .frs) (by decide) (.lst (show upd T.n a _ a = _ from upd_same) (r.mono (same_new (g.ok.n_none' hi)))), h⟩) hy hyl hsw hl' hc hs
/-- .. of ints -/
theorem js_lcVI (m : Nat) {scope : Scope} {elt tg iter : Expr} {ifs : List Expr} {own : List (Str × Nat)} {Tst : D → Bool} {f : D → Int} {ρd : D → PEnv} {py : Pos} {spos : Pos} (hi : JI X tg iter l ρ ds)
    (hg : ∀ d, d ∈ ds → ∀ s H C cl fp, JGb (Blk X s H scope C cl fp) tg l d (own.map (·.2)) (wipeL ρ (own.map (·.2))) (ρd d))
    (ht : ∀ d, d ∈ ds → ∀ s H C cl fp, JTs (Blk X s H scope C cl fp) ifs (ρd d) (Tst d))
    (he : ∀ d, d ∈ ds → Tst d = true → ∀ s H C cl fp, JE (Blk X s H scope C cl fp) .frs elt (ρd d) (.int (f d))) (h : P.nx (ρ.set m (some (.v .frs (.il ((ds.filter Tst).map f)))))) (hN : X.N.Nodup) (ok : BlkOk X.N X.env.scope scope own) (hz : ds.length ≤ 100000)
    (hy : X.N[m]? = some y := by rfl) (hyl : X.env.scope.names.lookup y = some .local := by rfl) (hsw : swapsWith (.ListComp elt [⟨tg, iter, ifs, 0⟩] scope pos) (some (.Name y py)) spos.line X.env = pure true := by exact sw_true rfl rfl rfl (by decide +kernel))
    (hc : X.calm = true := by rfl) (hs : ∀ x, foldedSetIterable iter X.env x = pure x := by exact fs_ns rfl) : JS X (.Assign [.Name y py] (.ListComp elt [⟨tg, iter, ifs, 0⟩] scope pos) spos) P ρ :=
  js_setLcAny m (l' := .frs) (f := fun d => .int (f d)) hi hg ht he hN ok hz (fun T σ a vs T0 F g h0 hi hh r => by
    have G := g.fix (o := .lst vs) h0 hi hh
    have e : vs = (((ds.filter Tst).map f).map V.int) := by
      rw [show ((ds.filter Tst).map fun d => D.int (f d)) = ((ds.filter Tst).map f).map D.int by rw [List.map_map]; rfl] at r
      exact r.of_il
    refine ⟨T.fix a (.lst vs), _, rfl, G.w, (F.grow G).set (l := .frs) (by decide) (.il (show upd T.n a _ a = _ from ?_)), h⟩
    rw [upd_same, e]) hy hyl hsw rfl hc hs
/-- .. as an own list of ints -/
theorem js_lcOI (m : Nat) {scope : Scope} {elt tg iter : Expr} {ifs : List Expr} {own : List (Str × Nat)} {Tst : D → Bool} {f : D → Int} {ρd : D → PEnv} {py : Pos} {spos : Pos} (hi : JI X tg iter l ρ ds)
    (hg : ∀ d, d ∈ ds → ∀ s H C cl fp, JGb (Blk X s H scope C cl fp) tg l d (own.map (·.2)) (wipeL ρ (own.map (·.2))) (ρd d))
    (ht : ∀ d, d ∈ ds → ∀ s H C cl fp, JTs (Blk X s H scope C cl fp) ifs (ρd d) (Tst d))
    (he : ∀ d, d ∈ ds → Tst d = true → ∀ s H C cl fp, JE (Blk X s H scope C cl fp) .frs elt (ρd d) (.int (f d))) (h : P.nx (ρ.set m (some (.ownI ((ds.filter Tst).map f))))) (hN : X.N.Nodup) (ok : BlkOk X.N X.env.scope scope own) (hz : ds.length ≤ 100000)
    (hy : X.N[m]? = some y := by rfl) (hyl : X.env.scope.names.lookup y = some .local := by rfl) (hsw : swapsWith (.ListComp elt [⟨tg, iter, ifs, 0⟩] scope pos) (some (.Name y py)) spos.line X.env = pure true := by exact sw_true rfl rfl rfl (by decide +kernel))
    (hc : X.calm = true := by rfl) (hs : ∀ x, foldedSetIterable iter X.env x = pure x := by exact fs_ns rfl) : JS X (.Assign [.Name y py] (.ListComp elt [⟨tg, iter, ifs, 0⟩] scope pos) spos) P ρ :=
  js_setLcAny m (l' := .frs) (f := fun d => .int (f d)) hi hg ht he hN ok hz (fun T σ a vs T0 F g h0 hi hh r => by
    have e : vs = (((ds.filter Tst).map f).map V.int) := by
      rw [show ((ds.filter Tst).map fun d => D.int (f d)) = ((ds.filter Tst).map f).map D.int by rw [List.map_map]; rfl] at r
      exact r.of_il
    refine ⟨T, _, rfl, g.w, (F.grow g).setOwn (e := .ownI _) ⟨a, rfl, by rw [hh, e], hi⟩ (F.fresh h0), h⟩) hy hyl hsw rfl hc hs

def restr (A : List Addr) (H : Hp) : Hp := fun b => if b ∈ A then H b else none
theorem restr_same {A : List Addr} {H : Hp} : Same (restr A H) H := fun b o h => by
  unfold restr at h
  split at h
  · exact h
  · cases h
theorem restr_in {A : List Addr} {H : Hp} {b : Addr} (m : b ∈ A) : restr A H b = H b := if_pos m
theorem restr_dom {A : List Addr} {H : Hp} {b : Addr} (h : restr A H b ≠ none) : b ∈ A := by
  unfold restr at h
  split at h
  · assumption
  · exact absurd rfl h
theorem uni_right {A B : Hp} {b : Addr} (h : A b = none) : uni A B b = B b := by unfold uni; rw [h]
/-! ### defs -/
def startE (n : Nat) (ds : List D) : PEnv := ds.map (fun d => some (.v .imm d)) ++ List.replicate (n - ds.length) none
theorem RpAll.get? {K : PySem.W.Frag} {H : Hp} {vs : List V} {ds : List D} (r : RpAll K H vs ds) (i : Nat) : (vs[i]? = none ∧ ds[i]? = none) ∨ ∃ v d, vs[i]? = some v ∧ ds[i]? = some d ∧ Rp K H v d := by
  cases e : ds[i]? with
  | none =>
    refine .inl ⟨?_, rfl⟩
    have := List.getElem?_eq_none_iff.mp e
    exact List.getElem?_eq_none_iff.mpr (by rw [r.length]; exact this)
  | some d =>
    obtain ⟨v, h1, h2⟩ := r.get e
    exact .inr ⟨v, d, h1, rfl, h2⟩
theorem fr_start {K : PySem.W.Frag} {H : Hp} {N : List Str} {vs : List V} {ds : List D} (r : RpAll K H vs ds) (hn : ds.length ≤ N.length) : Fr K ⟨H, fun _ => none, H⟩ (L2.start N vs) (startE N.length ds) := by
  have ok : Ok ⟨H, fun _ => none, H⟩ := ⟨fun a o h => (nomatch h), Same.refl _⟩
  have get : ∀ {i : Nat} {e : E}, (startE N.length ds)[i]? = some (some e) → ∃ d, ds[i]? = some d ∧ e = .v .imm d := fun {i e} h => by
    unfold startE at h
    by_cases hi : i < ds.length
    · rw [List.getElem?_append_left (by rw [List.length_map]; exact hi), List.getElem?_map, List.getElem?_eq_getElem hi] at h
      cases h
      exact ⟨_, List.getElem?_eq_getElem hi, rfl⟩
    · rw [List.getElem?_append_right (by rw [List.length_map]; omega), List.getElem?_replicate] at h
      split at h <;> cases h
  refine ⟨ok, ?_, fun i e h => ?_, fun i j e e' a h1 h2 o1 => ?_, fun i j e e' a h1 h2 o1 => ?_, fun i j e e' a h1 h2 o1 => ?_⟩
  · unfold L2.start startE
    rw [List.length_append, List.length_append, List.length_map, List.length_map, List.length_replicate, List.length_replicate, r.length]
  · obtain ⟨d, hd, rfl⟩ := get h
    obtain ⟨v, h1, h2⟩ := r.get hd
    refine ⟨v, ?_, by decide, h2⟩
    unfold L2.start
    have hi : i < vs.length := (List.getElem?_eq_some_iff.mp h1).1
    rw [List.getElem?_append_left (by rw [List.length_map]; exact hi), List.getElem?_map, h1]
    rfl
  · obtain ⟨d, hd, rfl⟩ := get h1
    cases o1
  · obtain ⟨d, hd, rfl⟩ := get h1
    cases o1
  · obtain ⟨d, hd, rfl⟩ := get h1
    cases o1
/-- THE RULE for a def: what its body comes to -/
theorem fn_ok {P : Program} {w : World} {K : PySem.W.Frag} {mg : Str → Option Value} {base : Heap} {x qual : Str} {st : Stmt} {f : Addr} {fd : FuncData} {N ps : List Str} {k : Nat} {pre : List D → Prop} {G : List D → D} (F : Fun K x qual st f fd) (S : FnScope N ps (defScope st))
    (hpre : ∀ ds, pre ds → ds.length = ps.length)
    (body : ∀ (cdv : Value) (A : Around) (outer : List Env) (s : Shared) (H : Hp) (E : XK), Room k (A.deeper (PyProof.Rows.envOfC qual (defScope st) s.heap.objs.size f cdv)) → ∀ ds, pre ds →
      JSs (cxOf CX0 P w K mg base N qual (defScope st) f cdv A outer s H E).nox (defBody st) { nx := fun _ => G ds = .non, rt := fun d => d = G ds, ru := fun d => d = G ds } (startE N.length ds)) :
    FnOk P w K mg base CX0 (k + 1) f fd ps (spF K pre G) := by
  refine F.ok S (fun vs H Q E ⟨ds, r, hp, _⟩ => by rw [r.length]; exact hpre ds hp) fun cdv A outer s H vs Q E hr ⟨ds, r, hp, q⟩ => ?_
  have hlen : ds.length ≤ N.length := by
    rw [hpre ds hp]
    have := congrArg List.length S.pre
    rw [List.length_take] at this
    omega
  refine ⟨_, pss_w, body cdv A outer s H E hr ds hp ⟨H, fun _ => none, H⟩ _ _ (fr_start r hlen) ⟨fun ρ σ T' g F' e => ?_, fun d v T' g e rv => ?_, fun ρ σ T' g F' z => z.elim, fun ρ σ T' g F' z => z.elim, fun g v T' gw eg rg fr nd => ?_, fun _ _ _ _ _ _ _ z => z.elim⟩⟩
  · refine q .non T'.h T'.n (g.xi.trans g.ok.ih) (g.ok.ni.trans g.ok.ih) (fun a h => ?_) (by rw [e]; exact .non)
    cases z : H a with
    | none => rfl
    | some o => exact absurd (g.fn a rfl (by show H a ≠ none; rw [z]; intro y; cases y) (by show H a ≠ none; rw [z]; intro y; cases y)) h
  · subst e
    refine q v T'.h T'.n (g.xi.trans g.ok.ih) (g.ok.ni.trans g.ok.ih) (fun a h => ?_) rv
    cases z : H a with
    | none => rfl
    | some o => exact absurd (g.fn a rfl (by show H a ≠ none; rw [z]; intro y; cases y) (by show H a ≠ none; rw [z]; intro y; cases y)) h
  · refine q v T'.h (uni T'.n (restr (adds g) T'.h)) (gw.xi.trans gw.ok.ih) (uni_to (gw.ok.ni.trans gw.ok.ih) restr_same) (fun a h => ?_) ?_
    · cases z : H a with
      | none => rfl
      | some o =>
        have z1 : T'.i a = some o := gw.xi a o z
        cases e : T'.n a with
        | some u => exact absurd (gw.fn a rfl (by show H a ≠ none; rw [z]; intro y; cases y) (by show H a ≠ none; rw [z]; intro y; cases y)) (by rw [e]; intro y; cases y)
        | none =>
          rw [uni_right e] at h
          rw [fr a (restr_dom h)] at z1
          cases z1
    · rw [← eg]
      exact rg.rp uni_l fun b mb => by rw [uni_right (gw.ok.n_none' (fr b mb)), restr_in mb]
end
end Lf

set_option Elab.async false
set_option linter.all false
set_option maxRecDepth 100000
set_option maxHeartbeats 2000000
set_option autoImplicit false
namespace Lf
open PySem L2
section
variable {X : Cx} {e a b c : Expr} {es : List Expr} {ρ ρ1 : PEnv} {d d1 d2 d3 : D} {l la lb lc : Lv} {pos p p2 : Pos} {i j k : Int} {ns ms : List Int} {ds fs : List D} {kt : Nat} {x y z : Str} {st : Stmt} {sts : List Stmt} {P : PEnds}
variable {scope : Scope} {elt tg iter : Expr} {ifs : List Expr}
theorem filter_tt {α : Type} (xs : List α) : xs.filter (fun _ => true) = xs := List.filter_eq_self.mpr fun _ _ => rfl
/-- no test -/
theorem joi_mapI {x : Str} {n : Nat} {f : Int → Int} (hi : JI X tg iter .frs ρ (ns.map D.int))
    (hg : ∀ k s H C cl fp, JGb (Blk X s H scope C cl fp) tg .frs (.int k) [n] (wipeE ρ n) ((wipeE ρ n).set n (some (.v .frs (.int k)))))
    (he : ∀ k, k ∈ ns → ∀ s H C cl fp, JE (Blk X s H scope C cl fp) .frs elt ((wipeE ρ n).set n (some (.v .frs (.int k)))) (.int (f k))) (hN : X.N.Nodup) (ok : BlkOk X.N X.env.scope scope [(x, n)]) (hz : ns.length ≤ 100000) (hc : X.calm = true := by rfl)
    (hs : ∀ x, foldedSetIterable iter X.env x = pure x := by exact fs_ns rfl) : JOI X (.ListComp elt [⟨tg, iter, [], 0⟩] scope pos) ρ (ns.map f) := by
  have h := joi_lcI (pos := pos) (x := x) (n := n) (Tst := fun _ => true) (f := f) hi hg (fun _ _ _ _ _ _ _ => jts_nil) (fun k hk _ => he k hk) hN ok hz hc hs
  rw [filter_tt] at h
  exact h
theorem jo_mapI {x : Str} {n : Nat} {l' : Lv} {f : Int → D} (hi : JI X tg iter .frs ρ (ns.map D.int))
    (hg : ∀ k s H C cl fp, JGb (Blk X s H scope C cl fp) tg .frs (.int k) [n] (wipeE ρ n) ((wipeE ρ n).set n (some (.v .frs (.int k)))))
    (he : ∀ k, k ∈ ns → ∀ s H C cl fp, JE (Blk X s H scope C cl fp) l' elt ((wipeE ρ n).set n (some (.v .frs (.int k)))) (f k)) (hN : X.N.Nodup) (ok : BlkOk X.N X.env.scope scope [(x, n)]) (hz : ns.length ≤ 100000) (hl' : Lv.le l' .imm = true := by rfl) (hc : X.calm = true := by rfl)
    (hs : ∀ x, foldedSetIterable iter X.env x = pure x := by exact fs_ns rfl) : JO X l' (.ListComp elt [⟨tg, iter, [], 0⟩] scope pos) ρ (ns.map f) := by
  have h := jo_lcI (pos := pos) (x := x) (n := n) (Tst := fun _ => true) (f := f) hi hg (fun _ _ _ _ _ _ _ => jts_nil) (fun k hk _ => he k hk) hN ok hz hl' hc hs
  rw [filter_tt] at h
  exact h
/-- truths -/
theorem jo_mapB {x : Str} {n : Nat} {f : Int → Bool} (hi : JI X tg iter .frs ρ (ns.map D.int))
    (hg : ∀ k s H C cl fp, JGb (Blk X s H scope C cl fp) tg .frs (.int k) [n] (wipeE ρ n) ((wipeE ρ n).set n (some (.v .frs (.int k)))))
    (he : ∀ k, k ∈ ns → ∀ s H C cl fp, JE (Blk X s H scope C cl fp) .frs elt ((wipeE ρ n).set n (some (.v .frs (.int k)))) (.bl (f k))) (hN : X.N.Nodup) (ok : BlkOk X.N X.env.scope scope [(x, n)]) (hz : ns.length ≤ 100000) (hc : X.calm = true := by rfl)
    (hs : ∀ x, foldedSetIterable iter X.env x = pure x := by exact fs_ns rfl) : JO X .frs (.ListComp elt [⟨tg, iter, [], 0⟩] scope pos) ρ ((ns.map f).map D.bl) := by
  have h := jo_mapI (pos := pos) (x := x) (n := n) (f := fun k => .bl (f k)) hi hg he hN ok hz rfl hc hs
  rw [List.map_map]
  exact h
/-- over values of any kind, a name, no test -/
theorem jo_map {x : Str} {n : Nat} {l' : Lv} {f : D → D} (hi : JI X tg iter l ρ ds)
    (hg : ∀ d, d ∈ ds → ∀ s H C cl fp, JGb (Blk X s H scope C cl fp) tg l d [n] (wipeE ρ n) ((wipeE ρ n).set n (some (.v l d))))
    (he : ∀ d, d ∈ ds → ∀ s H C cl fp, JE (Blk X s H scope C cl fp) l' elt ((wipeE ρ n).set n (some (.v l d))) (f d)) (hN : X.N.Nodup) (ok : BlkOk X.N X.env.scope scope [(x, n)]) (hz : ds.length ≤ 100000) (hl' : Lv.le l' .imm = true := by rfl) (hc : X.calm = true := by rfl)
    (hs : ∀ x, foldedSetIterable iter X.env x = pure x := by exact fs_ns rfl) : JO X l' (.ListComp elt [⟨tg, iter, [], 0⟩] scope pos) ρ (ds.map f) := by
  have h := jo_lc (pos := pos) (own := [(x, n)]) (Tst := fun _ => true) (f := f) (ρd := fun d => (wipeE ρ n).set n (some (.v l d))) hi hg (fun _ _ _ _ _ _ _ => jts_nil) (fun d hd _ => he d hd) hN ok hz hl' hc hs
  rw [filter_tt] at h
  exact h
theorem jo_mapDB {x : Str} {n : Nat} {f : D → Bool} (hi : JI X tg iter l ρ ds)
    (hg : ∀ d, d ∈ ds → ∀ s H C cl fp, JGb (Blk X s H scope C cl fp) tg l d [n] (wipeE ρ n) ((wipeE ρ n).set n (some (.v l d))))
    (he : ∀ d, d ∈ ds → ∀ s H C cl fp, JE (Blk X s H scope C cl fp) .frs elt ((wipeE ρ n).set n (some (.v l d))) (.bl (f d))) (hN : X.N.Nodup) (ok : BlkOk X.N X.env.scope scope [(x, n)]) (hz : ds.length ≤ 100000) (hc : X.calm = true := by rfl)
    (hs : ∀ x, foldedSetIterable iter X.env x = pure x := by exact fs_ns rfl) : JO X .frs (.ListComp elt [⟨tg, iter, [], 0⟩] scope pos) ρ ((ds.map f).map D.bl) := by
  have h := jo_map (pos := pos) (x := x) (n := n) (f := fun d => .bl (f d)) hi hg he hN ok hz rfl hc hs
  rw [List.map_map]
  exact h
/-- an expression's value told otherwise -/
theorem JE.eq (h : JE X l e ρ d) (q : d = d1) : JE X l e ρ d1 := by rw [← q]; exact h
theorem JOI.eq (h : JOI X e ρ ns) (q : ns = ms) : JOI X e ρ ms := by rw [← q]; exact h
theorem JI.eq (h : JI X tg iter l ρ ds) (q : ds = fs) : JI X tg iter l ρ fs := by rw [← q]; exact h
theorem JT.eq {v u : Bool} (h : JT X e ρ v) (q : v = u) : JT X e ρ u := by rw [← q]; exact h

/-! ### dicts of one's own, keys ints -/
def lookP {κ : Type} [DecidableEq κ] (kvs : List (κ × D)) (k : κ) : Option D := (kvs.find? fun kv => decide (kv.1 = k)).map (·.2)
def putP {κ : Type} [DecidableEq κ] (kvs : List (κ × D)) (k : κ) (d : D) : List (κ × D) :=
  if (kvs.any fun kv => decide (kv.1 = k)) = true then kvs.map (fun kv => if kv.1 = k then (kv.1, d) else kv) else kvs ++ [(k, d)]
theorem RpK.look {κ κ' : Type} [DecidableEq κ] [DecidableEq κ'] {f : κ → κ'} (inj : ∀ a b, f a = f b → a = b) {K : PySem.W.Frag} {H : Hp} (k : κ) : ∀ {vs : List (κ' × V)} {ds : List (κ × D)}, RpK f K H vs ds →
    (valV vs (f k) = none ∧ lookP ds k = none) ∨ ∃ v d, valV vs (f k) = some v ∧ lookP ds k = some d ∧ Rp K H v d
  | _, _, .nil => .inl ⟨rfl, rfl⟩
  | _, _, .cons (k := k') (v := v) (d := d) (vs := vs) (ds := ds) h r => by
    by_cases e : k' = k
    · subst e
      exact .inr ⟨v, d, by simp [valV], by simp [lookP], h⟩
    · have e' : ¬ f k' = f k := fun z => e (inj _ _ z)
      have h1 : valV ((f k', v) :: vs) (f k) = valV vs (f k) := valV_neg e'
      have h2 : lookP ((k', d) :: ds) k = lookP ds k := by simp [lookP, List.find?_cons, e]
      rw [h1, h2]
      exact RpK.look inj k r
theorem RpK.any {κ κ' : Type} [DecidableEq κ] [DecidableEq κ'] {f : κ → κ'} (inj : ∀ a b, f a = f b → a = b) {K : PySem.W.Frag} {H : Hp} (k : κ) : ∀ {vs : List (κ' × V)} {ds : List (κ × D)}, RpK f K H vs ds → (vs.any fun kv => decide (kv.1 = f k)) = (ds.any fun kv => decide (kv.1 = k))
  | _, _, .nil => rfl
  | _, _, .cons (k := k') h r => by
    rw [List.any_cons, List.any_cons, RpK.any inj k r]
    by_cases e : k' = k
    · subst e; simp
    · have e' : ¬ f k' = f k := fun z => e (inj _ _ z)
      simp [e, e']
theorem RpK.map {κ κ' : Type} [DecidableEq κ] [DecidableEq κ'] {f : κ → κ'} (inj : ∀ a b, f a = f b → a = b) {K : PySem.W.Frag} {H : Hp} {v : V} {d : D} (q : Rp K H v d) (k : κ) : ∀ {vs : List (κ' × V)} {ds : List (κ × D)}, RpK f K H vs ds →
    RpK f K H (vs.map fun kv => if kv.1 = f k then (kv.1, v) else kv) (ds.map fun kv => if kv.1 = k then (kv.1, d) else kv)
  | _, _, .nil => .nil
  | _, _, .cons (k := k') h r => by
    rw [List.map_cons, List.map_cons]
    by_cases e : k' = k
    · subst e
      simp only [if_true]
      exact .cons q (RpK.map inj q k' r)
    · have e' : ¬ f k' = f k := fun z => e (inj _ _ z)
      simp only [e, e', if_false]
      exact .cons h (RpK.map inj q k r)
theorem RpK.snoc {κ κ' : Type} {f : κ → κ'} {K : PySem.W.Frag} {H : Hp} {v : V} {d : D} (q : Rp K H v d) (k : κ) : ∀ {vs : List (κ' × V)} {ds : List (κ × D)}, RpK f K H vs ds → RpK f K H (vs ++ [(f k, v)]) (ds ++ [(k, d)])
  | _, _, .nil => .cons q .nil
  | _, _, .cons h r => .cons h (RpK.snoc q k r)
theorem RpK.put {κ κ' : Type} [DecidableEq κ] [DecidableEq κ'] {f : κ → κ'} (inj : ∀ a b, f a = f b → a = b) {K : PySem.W.Frag} {H : Hp} {v : V} {d : D} (q : Rp K H v d) (k : κ) {vs : List (κ' × V)} {ds : List (κ × D)} (r : RpK f K H vs ds) : RpK f K H (putK vs (f k) v) (putP ds k d) := by
  unfold putK putP
  rw [RpK.any inj k r]
  split
  · exact RpK.map inj q k r
  · exact RpK.snoc q k r
theorem inj_I : ∀ a b : Int, keyI a = keyI b → a = b := fun a b h => Sum.inl.inj h
theorem inj_T : ∀ a b : List Int, keyT a = keyT b → a = b := fun a b h => List.map_inj_right (fun x y z => Sum.inl.inj z) |>.mp h
variable {kvs : List (Int × D)} {kvt : List (List Int × D)} {n : Nat}
/-- x = {} -/
theorem js_setDI (n : Nat) {p' : Pos} (h : P.nx (ρ.set n (some (.dI l [])))) (hl : l ≠ .full := by decide) (hN : X.N.Nodup) (hi : X.N[n]? = some x := by rfl) (hx : Loc X.env.scope x := by first | exact Or.inl rfl | exact Or.inr rfl)
    (hs : swapsWith (.Dict [] [] p) (some (.Name x p')) pos.line X.env = pure false := by exact sw_ns rfl) (hf : X.fn x = true ∨ X.env.scope.names.lookup x = some .local := by exact Or.inl rfl) : JS X (.Assign [.Name x p'] (.Dict [] [] p) pos) P ρ :=
  JS.of (ps_set (i := n) hN hi hx pe_dnewK hs hf) fun T σ D F m => fun a ha => m.nx _ _ (T.put a (.dK [])) (Grow.put F.ok ha).w ((F.grow (Grow.put F.ok ha)).setOwn (e := .dI l []) ⟨hl, a, [], rfl, upd_same, F.ok.i_none ha, .nil⟩ (F.fresh ha)) h
theorem js_setDT (n : Nat) {p' : Pos} (h : P.nx (ρ.set n (some (.dT l [])))) (hl : l ≠ .full := by decide) (hN : X.N.Nodup) (hi : X.N[n]? = some x := by rfl) (hx : Loc X.env.scope x := by first | exact Or.inl rfl | exact Or.inr rfl)
    (hs : swapsWith (.Dict [] [] p) (some (.Name x p')) pos.line X.env = pure false := by exact sw_ns rfl) (hf : X.fn x = true ∨ X.env.scope.names.lookup x = some .local := by exact Or.inl rfl) : JS X (.Assign [.Name x p'] (.Dict [] [] p) pos) P ρ :=
  JS.of (ps_set (i := n) hN hi hx pe_dnewT hs hf) fun T σ D F m => fun a ha => m.nx _ _ (T.put a (.dT [])) (Grow.put F.ok ha).w ((F.grow (Grow.put F.ok ha)).setOwn (e := .dT l []) ⟨hl, a, [], rfl, upd_same, F.ok.i_none ha, .nil⟩ (F.fresh ha)) h
/-- d[k] = v -/
theorem js_putI (n : Nat) {pt : Pos} (hu : X.A.units + 1 < cLine) (hr : ρ[n]? = some (some (.dI l kvs))) (he : JE X la e ρ d) (hb : JE X lb b ρ (.int i)) (h : P.nx (ρ.set n (some (.dI l (putP kvs i d))))) (hz : kvs.length < 100000) (hle : Lv.le la l = true := by rfl) (hN : X.N[n]? = some x := by rfl)
    (hv : Vis X.env.scope x := by first | exact Or.inl rfl | exact Or.inr (Or.inl rfl) | exact Or.inr (Or.inr rfl)) (hd : (x == ("__debug__" : Str)) = false := by decide) (hcd : (x == ("__classdict__" : Str)) = false := by decide)
    (hs : swapsWith e (some (.Subscript (.Name x p) b pt)) pos.line X.env = pure false := by exact sw_ns rfl) : JS X (.Assign [.Subscript (.Name x p) b pt] e pos) P ρ :=
  JS.of (ps_dput hu (pe_var hN hv hd hcd) pe_w pe_w hs) fun T σ D F m => he T σ _ F fun w T1 g1 r1 => by
    obtain ⟨v, h1, hl, a, ws, rfl, h2, h3, rr⟩ := F.val n _ hr
    refine ⟨_, h1, hb T1 σ _ (F.grow g1) fun u T2 g2 r2 => ?_⟩
    cases r2
    have g := g1.trans g2
    have h2' := g.ex _ _ h2
    have h3' := g.fi a h3 (by rw [h2]; intro z; cases z)
    refine ⟨a, _, rfl, DPut.k (k := Sum.inl i) h2' (by rw [rr.length]; exact small_lt hz), ?_⟩
    refine m.nx _ σ (T2.put a (.dK (putK ws (Sum.inl i) w))) (g.w.trans (Gw.put g.ok h3')) ((F.grow g).chg (e1 := .dI l (putP kvs i d)) hr rfl h1 rfl ⟨hl, a, _, rfl, upd_same, h3', ?_⟩) h
    have z := RpK.put inj_I ((r1.mono (g1.ok.le hle)).mono (g2.at l)) i (rr.mono (g.at l))
    cases l with
    | full => exact absurd rfl hl
    | imm => exact z
    | frs => exact z
theorem js_putT (n : Nat) {pt : Pos} {ks : List Int} (hu : X.A.units + 1 < cLine) (hr : ρ[n]? = some (some (.dT l kvt))) (he : JE X la e ρ d) (hb : JE X lb b ρ (.tup (ks.map D.int))) (h : P.nx (ρ.set n (some (.dT l (putP kvt ks d))))) (hz : kvt.length < 100000) (hle : Lv.le la l = true := by rfl) (hN : X.N[n]? = some x := by rfl)
    (hv : Vis X.env.scope x := by first | exact Or.inl rfl | exact Or.inr (Or.inl rfl) | exact Or.inr (Or.inr rfl)) (hd : (x == ("__debug__" : Str)) = false := by decide) (hcd : (x == ("__classdict__" : Str)) = false := by decide)
    (hs : swapsWith e (some (.Subscript (.Name x p) b pt)) pos.line X.env = pure false := by exact sw_ns rfl) : JS X (.Assign [.Subscript (.Name x p) b pt] e pos) P ρ :=
  JS.of (ps_dput hu (pe_var hN hv hd hcd) pe_w pe_w hs) fun T σ D F m => he T σ _ F fun w T1 g1 r1 => by
    obtain ⟨v, h1, hl, a, ws, rfl, h2, h3, rr⟩ := F.val n _ hr
    refine ⟨_, h1, hb T1 σ _ (F.grow g1) fun u T2 g2 r2 => ?_⟩
    cases r2 with
    | tup hq ra =>
      have g := g1.trans g2
      have h2' := g.ex _ _ h2
      have h3' := g.fi a h3 (by rw [h2]; intro z; cases z)
      have e1 := ra.of_il
      subst e1
      have ht := g2.ok.full (a := lb) _ _ hq
      refine ⟨a, _, rfl, DPut.t (k := ks.map Sum.inl) h2' (by rw [List.map_map]; exact ht) (by rw [rr.length]; exact small_lt hz), ?_⟩
      refine m.nx _ σ (T2.put a (.dT (putK ws (keyT ks) w))) (g.w.trans (Gw.put g.ok h3')) ((F.grow g).chg (e1 := .dT l (putP kvt ks d)) hr rfl h1 rfl ⟨hl, a, _, rfl, upd_same, h3', ?_⟩) h
      have z := RpK.put inj_T ((r1.mono (g1.ok.le hle)).mono (g2.at l)) ks (rr.mono (g.at l))
      cases l with
      | full => exact absurd rfl hl
      | imm => exact z
      | frs => exact z
/-- d.get(k, e) -/
theorem je_get (n : Nat) {apos cpos : Pos} (hu : X.A.units + 1 < cLine) (hr : ρ[n]? = some (some (.dI l kvs))) (hb : JE X lb b ρ (.int i)) (he : JE X la e ρ d) (hle : Lv.le la l = true := by rfl) (hN : X.N[n]? = some x := by rfl)
    (hv : Vis X.env.scope x := by first | exact Or.inl rfl | exact Or.inr (Or.inl rfl) | exact Or.inr (Or.inr rfl)) (hd : (x == ("__debug__" : Str)) = false := by decide) (hcd : (x == ("__classdict__" : Str)) = false := by decide)
    (m : M2 X (.Name x p) "get" apos b e cpos := by exact ⟨rfl, rfl, rfl, rfl⟩) : JE X l (.Call (.Attribute (.Name x p) "get" apos) [b, e] [] cpos) ρ ((lookP kvs i).getD d) :=
  JE.of (pe_dget2 hu (pe_var hN hv hd hcd) pe_w pe_w m) fun T σ Q F q => by
    obtain ⟨v, h1, hl, a, ws, rfl, h2, h3, rr⟩ := F.val n _ hr
    refine ⟨_, h1, a, rfl, .inl ⟨ws, .inl h2⟩, hb T σ _ F fun u T1 g1 r1 => he T1 σ _ (F.grow g1) fun w T2 g2 r2 => ?_⟩
    cases r1
    have g := g1.trans g2
    have h2' := g.ex _ _ h2
    refine ⟨_, DGet.k (k := Sum.inl i) h2', ?_⟩
    rcases RpK.look inj_I i (rr.mono (g.at l)) with ⟨z1, z2⟩ | ⟨v, d', z1, z2, z3⟩
    · have z1' : valV ws (Sum.inl i) = none := z1
      rw [z1']
      rw [z2] at q
      exact q _ T2 g (r2.mono (g2.ok.le hle))
    · have z1' : valV ws (Sum.inl i) = some v := z1
      rw [z1']
      rw [z2] at q
      exact q _ T2 g z3
/-- k in d -/
theorem jc_dinI (n : Nat) (hu : X.A.units + 1 < cLine) (hb : JE X lb b ρ (.int i)) (hr : ρ[n]? = some (some (.dI l kvs))) (hN : X.N[n]? = some x := by rfl)
    (hv : Vis X.env.scope x := by first | exact Or.inl rfl | exact Or.inr (Or.inl rfl) | exact Or.inr (Or.inr rfl)) (hd : (x == ("__debug__" : Str)) = false := by decide) (hcd : (x == ("__classdict__" : Str)) = false := by decide) : JC X .In b (.Name x p) ρ (lookP kvs i).isSome :=
  fun T σ Q F q pins s I => (pc_din hu pe_w (pe_var hN hv hd hcd)).run pins s σ T.h Q I (hb T σ _ F fun u T1 g1 r1 => by
    obtain ⟨v, h1, hl, a, ws, rfl, h2, h3, rr⟩ := F.val n _ hr
    cases r1
    refine ⟨_, h1, a, _, rfl, DGet.k (k := Sum.inl i) (g1.ex _ _ h2), ?_⟩
    rcases RpK.look inj_I i rr with ⟨z1, z2⟩ | ⟨v, d', z1, z2, z3⟩
    · have z1' : valV ws (Sum.inl i) = none := z1
      rw [z1']
      rw [z2] at q
      exact q T1 g1
    · have z1' : valV ws (Sum.inl i) = some v := z1
      rw [z1']
      rw [z2] at q
      exact q T1 g1)
theorem je_lenDI (n : Nat) (hm : X.mg "len" = none) (hr : ρ[n]? = some (some (.dI l kvs))) (hN : X.N[n]? = some x := by rfl)
    (hv : Vis X.env.scope x := by first | exact Or.inl rfl | exact Or.inr (Or.inl rfl) | exact Or.inr (Or.inr rfl)) (hd : (x == ("__debug__" : Str)) = false := by decide) (hcd : (x == ("__classdict__" : Str)) = false := by decide)
    (hg : Gl X "len" := by rfl) {pl pn : Pos} (he : starEach [.Name x pn] X.env = (false, eval (.Name x pn) X.env) :: starEach [] X.env := by exact star_c rfl) (hpl : (backTo pos (starEach [] X.env)).any (·.1) = false := by exact back_ns rfl) : JE X .frs (.Call (.Name "len" p) [.Name x pn] [] pos) ρ (.int kvs.length) :=
  JE.of (pe_callB call_lenD hg hm PySem.boot_len (pa_cons (pe_var hN hv hd hcd) pa_nil he) (by decide) (by decide) he hpl) fun T σ Q F q => by
    obtain ⟨v, h1, hl, a, ws, rfl, h2, h3, rr⟩ := F.val n _ hr
    refine ⟨_, h1, a, ws, rfl, h2, ?_⟩
    rw [rr.length]
    exact q _ T (Grow.refl F.ok) (.int _)
/-! ### dicts of ints to ints; enumerate from k -/
def dII (m : List (Int × Int)) : List (Int × D) := m.map fun p => (p.1, .int p.2)
def lookI (m : List (Int × Int)) (k : Int) : Option Int := (m.find? fun p => decide (p.1 = k)).map (·.2)
def putI (m : List (Int × Int)) (k v : Int) : List (Int × Int) := if (m.any fun p => decide (p.1 = k)) = true then m.map (fun p => if p.1 = k then (p.1, v) else p) else m ++ [(k, v)]
theorem lookP_dII (m : List (Int × Int)) (k : Int) : lookP (dII m) k = (lookI m k).map D.int := by
  unfold lookP dII lookI
  rw [List.find?_map, Option.map_map, Option.map_map]
  rfl
theorem putP_dII (m : List (Int × Int)) (k v : Int) : putP (dII m) k (.int v) = dII (putI m k v) := by
  unfold putP dII putI
  rw [List.any_map]
  show (if (m.any fun p => decide (p.1 = k)) = true then _ else _) = _
  split
  · rw [List.map_map, List.map_map]
    congr 1
    funext p
    show (if p.1 = k then (p.1, D.int v) else (p.1, D.int p.2)) = _
    by_cases h : p.1 = k
    · simp [h]
    · simp [h]
  · rw [List.map_append]
    rfl
theorem lookI_put (m : List (Int × Int)) (k v j : Int) : lookI (putI m k v) j = if j = k then some v else lookI m j := by
  unfold putI
  split
  · rename_i h
    have key : ∀ m : List (Int × Int), lookI (m.map fun p => if p.1 = k then (p.1, v) else p) j = if j = k then (lookI m k).map (fun _ => v) else lookI m j := by
      intro m
      induction m with
      | nil => unfold lookI; simp
      | cons p r ih =>
        unfold lookI at ih ⊢
        rw [List.map_cons]
        by_cases e : p.1 = k
        · by_cases e2 : j = k
          · subst e2; simp [List.find?_cons, e]
          · have e3 : ¬ k = j := fun z => e2 z.symm
            have e4 : ¬ p.1 = j := fun z => e2 (z.symm.trans e)
            simp only [e, if_true, List.find?_cons, e3, e4, e2, decide_false, if_false, Bool.false_eq_true] at ih ⊢
            simpa [e] using ih
        · by_cases e2 : p.1 = j
          · have e3 : ¬ j = k := fun z => e (e2.trans z)
            simp [e, e2, List.find?_cons, e3]
          · simp only [e, if_false, List.find?_cons, e2, decide_false, Bool.false_eq_true] at ih ⊢
            exact ih
    rw [key]
    by_cases e : j = k
    · simp only [e, if_true]
      unfold lookI
      have : (m.find? fun p => decide (p.1 = k)).isSome = true := by
        rw [List.find?_isSome]
        obtain ⟨p, hp, hq⟩ := List.any_eq_true.mp h
        exact ⟨p, hp, hq⟩
      obtain ⟨q, hq⟩ := Option.isSome_iff_exists.mp this
      rw [hq]
      rfl
    · simp only [e, if_false]
  · rename_i h
    unfold lookI
    rw [List.find?_append]
    by_cases e : j = k
    · subst e
      have : m.find? (fun p => decide (p.1 = j)) = none := by
        rw [List.find?_eq_none]
        intro p hp hq
        exact h (List.any_eq_true.mpr ⟨p, hp, hq⟩)
      rw [this]
      simp
    · have e3 : ¬ k = j := fun z => e z.symm
      cases q : m.find? (fun p => decide (p.1 = j)) with
      | none => simp [e, e3, List.find?_cons]
      | some p => simp [e]
theorem putI_length (m : List (Int × Int)) (k v : Int) : (putI m k v).length ≤ m.length + 1 := by
  unfold putI
  split
  · rw [List.length_map]; omega
  · rw [List.length_append]; simp
def enumF (k : Nat) : List Int → List D
  | [] => []
  | n :: r => .tup [.int (k : Int), .int n] :: enumF (k + 1) r
theorem enumF_get : ∀ (ns : List Int) (k i : Nat), (enumF k ns)[i]? = (ns[i]?).map fun n => .tup [.int ((k + i : Nat) : Int), .int n]
  | [], k, i => by simp [enumF]
  | n :: r, k, 0 => by simp [enumF]
  | n :: r, k, i + 1 => by
    show (enumF (k + 1) r)[i]? = _
    rw [enumF_get r (k + 1) i]
    simp only [List.getElem?_cons_succ]
    rw [show k + 1 + i = k + (i + 1) by omega]
theorem enumI_eq (ns : List Int) : enumI ns = enumF 0 ns := by
  apply List.ext_getElem?
  intro i
  rw [enumF_get]
  cases e : ns[i]? with
  | none => exact List.getElem?_eq_none (by rw [enumI_length]; exact List.getElem?_eq_none_iff.mp e)
  | some n =>
    rw [enumI_get e]
    simp
end
end Lf

set_option Elab.async false
set_option linter.all false
set_option maxRecDepth 100000
set_option maxHeartbeats 2000000
set_option autoImplicit false
namespace Lf
open PySem L2
section
variable {X : Cx} {e a b c : Expr} {es : List Expr} {ρ ρ1 : PEnv} {d d1 d2 d3 : D} {l la lb lc : Lv} {pos p p2 : Pos} {i j k : Int} {ns ms : List Int} {ds fs : List D} {kt : Nat} {x y z : Str} {st : Stmt} {sts : List Stmt} {P : PEnds}
/-- x, y = [..], {} -/
theorem js_parOD (n m : Nat) {px py pt pt2 pd : Pos} {k1 k2 : Nat} (ha : JOI X a ρ ns) (h : P.nx ((ρ.set n (some (.ownI ns))).set m (some (.dI l [])))) (hl : l ≠ .full := by decide) (hN : X.N.Nodup) (hnm : n ≠ m := by decide) (hi : X.N[n]? = some x := by rfl) (hj : X.N[m]? = some y := by rfl)
    (hx : X.env.scope.names.lookup x = some .local := by rfl) (hy : X.env.scope.names.lookup y = some .local := by rfl) (hc : X.calm = true := by rfl)
    (hw : swappedStores [.Tuple [.Name x px, .Name y py] k1 pt] (.Tuple [a, .Dict [] [] pd] k2 pt2) X.env = pure (some [x, y]) := by rfl)
    (hs : swapsWithSole [.Tuple [.Name x px, .Name y py] k1 pt] (.Tuple [a, .Dict [] [] pd] k2 pt2) pos.line X.env = pure false := by exact sws_ns rfl)
    (hs1 : starEach [a, .Dict [] [] pd] X.env = (false, eval a X.env) :: starEach [.Dict [] [] pd] X.env := by exact star_c rfl) (hs2 : starEach [.Dict [] [] pd] X.env = (false, eval (.Dict [] [] pd) X.env) :: starEach [] X.env := by exact star_c rfl) : JS X (.Assign [.Tuple [.Name x px, .Name y py] k1 pt] (.Tuple [a, .Dict [] [] pd] k2 pt2) pos) P ρ :=
  JS.of (ps_par (i := n) (j := m) hc hN hi hj hnm hx hy (pa_cons pe_w (pa_cons pe_dnewK pa_nil hs2) hs1) hw hs) fun T σ D F mm => ha T σ _ F fun a T1 g1 h0 h1 h2 => fun q hq => by
    refine ⟨_, _, rfl, mm.nx _ _ (T1.put q (.dK [])) (g1.w.trans (Grow.put g1.ok hq).w) ?_ h⟩
    have F1 := (F.grow g1).setOwn (i := n) (e := .ownI ns) ⟨a, rfl, h2, h1⟩ (F.fresh h0)
    exact (F1.grow (Grow.put g1.ok hq)).setOwn (i := m) (e := .dI l []) ⟨hl, q, [], rfl, upd_same, g1.ok.i_none hq, .nil⟩ (F1.fresh hq)
/-- x, y = [..], [..] of ints, both own -/
theorem js_parOO (n m : Nat) {px py pt pt2 : Pos} {k1 k2 : Nat} (ha : JOI X a ρ ns) (hb : JOI X b ρ ms) (h : P.nx ((ρ.set n (some (.ownI ns))).set m (some (.ownI ms)))) (hN : X.N.Nodup) (hnm : n ≠ m := by decide) (hi : X.N[n]? = some x := by rfl) (hj : X.N[m]? = some y := by rfl)
    (hx : X.env.scope.names.lookup x = some .local := by rfl) (hy : X.env.scope.names.lookup y = some .local := by rfl) (hc : X.calm = true := by rfl)
    (hw : swappedStores [.Tuple [.Name x px, .Name y py] k1 pt] (.Tuple [a, b] k2 pt2) X.env = pure (some [x, y]) := by rfl)
    (hs : swapsWithSole [.Tuple [.Name x px, .Name y py] k1 pt] (.Tuple [a, b] k2 pt2) pos.line X.env = pure false := by exact sws_ns rfl)
    (hs1 : starEach [a, b] X.env = (false, eval a X.env) :: starEach [b] X.env := by exact star_c rfl) (hs2 : starEach [b] X.env = (false, eval b X.env) :: starEach [] X.env := by exact star_c rfl) : JS X (.Assign [.Tuple [.Name x px, .Name y py] k1 pt] (.Tuple [a, b] k2 pt2) pos) P ρ :=
  JS.of (ps_par (i := n) (j := m) hc hN hi hj hnm hx hy (pa_cons pe_w (pa_cons pe_w pa_nil hs2) hs1) hw hs) fun T σ D F mm => ha T σ _ F fun a T1 g1 h0 h1 h2 => hb T1 σ _ (F.grow g1) fun q T2 g2 h3 h4 h5 => by
    refine ⟨_, _, rfl, mm.nx _ _ T2 (g1.w.trans g2.w) ?_ h⟩
    have F1 := (F.grow g1).setOwn (i := n) (e := .ownI ns) ⟨a, rfl, h2, h1⟩ (F.fresh h0)
    exact (F1.grow g2).setOwn (i := m) (e := .ownI ms) ⟨q, rfl, h5, h4⟩ (F1.fresh h3)
/-- an own list of ints from a call -/
theorem joi_call {m n : Nat} {pre : List D → Prop} {G : List D → D} (C : Callee X.prog X.w X.K X.mg X.base m x pre G) (hr : Room n X.A) (ha : JA X .full (e :: es) ρ ds) (hp : pre ds) (hq : G ds = .il ns := by rfl) (hk : m ≤ n := by decide) (hg : Gl X x := by rfl) (hdb : (x == ("__debug__" : Str)) = false := by decide)
    (he : starEach (e :: es) X.env = (false, eval e X.env) :: starEach es X.env := by exact star_c rfl) (hpl : (backTo pos (starEach es X.env)).any (·.1) = false := by exact back_ns rfl) : JOI X (.Call (.Name x p) (e :: es) [] pos) ρ ns := by
  obtain ⟨f, fd, ps, F, hm, hkp, hb⟩ := C.ex
  refine JOI.of (pe_call F (hr.mono hk) hg hm hkp hb .nil pass0 pa_w hdb he hpl) fun T σ Q Fm q => ha T σ _ Fm fun vs T1 g1 r1 => ?_
  refine ⟨ds, by rw [List.append_nil]; exact r1, hp, fun v H' Hn h1 h2 dj rv => ?_⟩
  rw [hq] at rv
  cases rv with
  | il h =>
    have hnew := dj _ (by rw [h]; intro z; cases z)
    have G : Grow T ⟨T1.i, T1.n, H'⟩ := g1.trans ⟨⟨g1.ok.ni, g1.ok.ih.trans h1⟩, h1, Same.refl _, Same.refl _, fun _ z _ => z, fun _ z _ => z⟩
    exact q _ ⟨T1.i, T1.n, H'⟩ G (Same.free g1.ex hnew) (g1.ok.i_none hnew) (h2 _ _ h)

/-! ### the script, read -/
theorem je_sumS (hm : X.mg "sum" = none) (ha : JE X la e ρ (.scr ns)) (hc : X.calm = true := by rfl) (hg : Gl X "sum" := by rfl) (he : starEach [e] X.env = (false, eval e X.env) :: starEach [] X.env := by exact star_c rfl) (hpl : (backTo pos (starEach [] X.env)).any (·.1) = false := by exact back_ns rfl) :
    JE X .frs (.Call (.Name "sum" p) [e] [] pos) ρ (.int ns.sum) :=
  je_callB (cr_sum hc) hm (by decide +kernel) (ja_cons ha ja_nil (Lv.le_full _) he) (fun T vs Q o r q => by
    cases r with
    | cons r1 r2 =>
      cases r2
      cases r1 with
      | scr h => exact ⟨_, _, rfl, h, q _ T (Grow.refl o) (.int _)⟩) hg (by decide) (by decide) he hpl
theorem je_lenS (hm : X.mg "len" = none) (ha : JE X la e ρ (.scr ns)) (hg : Gl X "len" := by rfl) (he : starEach [e] X.env = (false, eval e X.env) :: starEach [] X.env := by exact star_c rfl) (hpl : (backTo pos (starEach [] X.env)).any (·.1) = false := by exact back_ns rfl) :
    JE X .frs (.Call (.Name "len" p) [e] [] pos) ρ (.int ns.length) :=
  je_callB call_len_seq hm PySem.boot_len (ja_cons ha ja_nil (Lv.le_full _) he) (fun T vs Q o r q => by
    cases r with
    | cons r1 r2 =>
      cases r2
      cases r1 with
      | scr h =>
        refine ⟨_, _, rfl, .inl h, ?_⟩
        rw [List.length_map]
        exact q _ T (Grow.refl o) (.int _)) hg (by decide) (by decide) he hpl
theorem ji_listS {tg : Expr} (ha : JE X la a ρ (.scr ns)) (z : Lv.le la .imm = true := by rfl) : JI X tg a .frs ρ (ns.map D.int) :=
  JI.of (pi_list pe_w) fun T σ R F q => ha T σ _ F fun v T1 g1 r1 => by
    cases r1 with
    | scr h =>
      have hi := (g1.ok.le z).seq h
      refine ⟨_, rfl, ⟨_, g1.ok.ih.seq hi⟩, q _ T1 g1 fun T' i s sn o => ⟨fun d e => ?_, fun e => ?_⟩⟩
      · have e' : ns[i]?.map D.int = some d := by rw [← List.getElem?_map]; exact e
        cases en : ns[i]? with
        | none => rw [en] at e'; cases e'
        | some n =>
          rw [en] at e'
          cases e'
          have hx : (ns.map V.int)[i]? = some (.int n) := by rw [List.getElem?_map, en]; rfl
          refine ⟨⟨_, _, (s.trans o.ih).seq hi, hx⟩, fun x H' y => ?_⟩
          obtain ⟨rfl, y⟩ := y
          have ex := y _ ((s.trans o.ih).seq hi)
          rw [hx] at ex
          cases ex
          exact ⟨T', rfl, Grow.refl o, .int n⟩
      · refine ⟨_, (s.trans o.ih).seq hi, ?_⟩
        have := List.getElem?_eq_none_iff.mp e
        rw [List.length_map] at this ⊢
        exact this
theorem ji_zipS {elts : List Expr} {kk : Nat} {tpos : Pos} (hm : X.mg "zip" = none) (ha : JE X la a ρ (.il ns)) (hb : JE X lb b ρ (.scr ms)) (z : Lv.le la .imm = true := by rfl) (z2 : Lv.le lb .imm = true := by rfl) (hg : Gl X "zip" := by rfl) (hs : starEach [a, b] X.env = (false, eval a X.env) :: starEach [b] X.env := by exact star_c rfl)
    (hs2 : starEach [b] X.env = (false, eval b X.env) :: starEach [] X.env := by exact star_c rfl) (hpl : (backTo pos (starEach [b] X.env)).any (·.1) = false := by exact back_ns rfl) : JI X (.Tuple elts kk tpos) (.Call (.Name "zip" p) [a, b] [] pos) .frs ρ (zipI ns ms) :=
  JI.of (pi_zip hg hm (pa_cons pe_w (pa_cons pe_w pa_nil hs2) hs) hs hpl) fun T σ R F q => ha T σ _ F fun v T1 g1 r1 => hb T1 σ _ (F.grow g1) fun u T2 g2 r2 => by
    have g := g1.trans g2
    cases r1 with
    | il h =>
      have h := SqL.of (K := X.K) h
      cases r2 with
      | scr h2 =>
        have hi := g2.xi.seq ((g1.ok.le z).seq h)
        have hi2 := (g2.ok.le z2).seq h2
        refine ⟨_, _, _, _, rfl, g2.ok.ih.seq hi, g2.ok.ih.seq hi2, q _ T2 g fun T' i s sn o => ⟨fun d e => ?_, fun e => ?_⟩⟩
        · have hlt : i < ns.length ∧ i < ms.length := by
            have := (List.getElem?_eq_some_iff.mp e).1
            unfold zipI at this
            rw [List.length_map, List.length_zip] at this
            omega
          have hq := (s.trans o.ih).seq hi
          have hq2 := (s.trans o.ih).seq hi2
          have en : ns[i]? = some ns[i] := List.getElem?_eq_getElem hlt.1
          have em : ms[i]? = some ms[i] := List.getElem?_eq_getElem hlt.2
          have hx : (ns.map V.int)[i]? = some (.int ns[i]) := by rw [List.getElem?_map, en]; rfl
          have hy : (ms.map V.int)[i]? = some (.int ms[i]) := by rw [List.getElem?_map, em]; rfl
          have ed : d = .tup [.int ns[i], .int ms[i]] := by
            unfold zipI at e
            rw [List.getElem?_map, List.getElem?_eq_getElem (by rw [List.length_zip]; omega), List.getElem_zip] at e
            cases e
            rfl
          subst ed
          refine ⟨⟨_, _, _, _, hq, hq2, hx, hy⟩, fun x H' y => ?_⟩
          obtain ⟨t, w, w2, rfl, ht, rfl, y1, y2⟩ := y
          have ex := y1 _ hq
          rw [hx] at ex
          cases ex
          have ey := y2 _ hq2
          rw [hy] at ey
          cases ey
          exact ⟨(T'.put t _).fix t _, rfl, (Grow.put o ht).fix ht (o.i_none ht) upd_same, .tup upd_same (.cons (.int _) (.cons (.int _) .nil))⟩
        · refine ⟨_, _, (s.trans o.ih).seq hi, (s.trans o.ih).seq hi2, ?_⟩
          have := List.getElem?_eq_none_iff.mp e
          unfold zipI at this
          rw [List.length_map, List.length_zip] at this
          rw [List.length_map, List.length_map]
          omega
theorem joi_stepS {k : Nat} {s : Int} {p1 p3 : Pos} (ha : JE X la a ρ (.scr ns)) (hs : 0 < s := by decide) (hz : ns.length ≤ 100000) : JOI X (.Subscript a (.Slice none none (some (.Constant (.int s) k p1)) p3) pos) ρ (stepL ns none none (some s)) :=
  JOI.of (pe_stepL pe_w po_none (by omega)) fun T σ Q F q => ha T σ _ F fun v T1 g1 r1 => by
    have r1' := r1.mono g1.ok.full
    cases r1' with
    | scr h1 =>
      refine ⟨_, _, rfl, h1, ?_, fun p hp => ?_⟩
      · rw [stepL_map, List.length_map]
        exact small_of (Nat.le_trans (stepL_len ns none hs) hz)
      · rw [stepL_map]
        exact q p (T1.put p _) (g1.trans (Grow.put g1.ok hp)) (Same.free g1.ex hp) (g1.ok.i_none hp) upd_same
theorem joi_stepFS {k k2 : Nat} {s f : Int} {p0 p1 p3 : Pos} (ha : JE X la a ρ (.scr ns)) (hs : 0 < s := by decide) (hz : ns.length ≤ 100000) : JOI X (.Subscript a (.Slice (some (.Constant (.int f) k2 p0)) none (some (.Constant (.int s) k p1)) p3) pos) ρ (stepL ns (some f) none (some s)) :=
  JOI.of (pe_stepL (ol := some f) pe_w ⟨fun pins s' σ H Q I h => (po_some pe_int).run pins s' σ H Q I ⟨f, rfl, h⟩⟩ (by omega)) fun T σ Q F q => ha T σ _ F fun v T1 g1 r1 => by
    have r1' := r1.mono g1.ok.full
    cases r1' with
    | scr h1 =>
      refine ⟨_, _, rfl, h1, ?_, fun p hp => ?_⟩
      · rw [stepL_map, List.length_map]
        exact small_of (Nat.le_trans (stepL_len ns _ hs) hz)
      · rw [stepL_map]
        exact q p (T1.put p _) (g1.trans (Grow.put g1.ok hp)) (Same.free g1.ex hp) (g1.ok.i_none hp) upd_same
variable {lo hi : Option Expr} {ol oh : Option Int}
theorem joi_cutS (ha : JE X la a ρ (.scr ns)) (hl : JP X lo ρ ol) (hh : JP X hi ρ oh) : JOI X (.Subscript a (.Slice lo hi none p2) pos) ρ (cutL ns ol oh) :=
  JOI.of (pe_slice sl_list pe_w po_w po_w) fun T σ Q F q => ha T σ _ F fun v T1 g1 r1 => hl T1 σ _ (F.grow g1) fun T2 g2 => hh T2 σ _ ((F.grow g1).grow g2) fun T3 g3 => by
    have r1' := ((r1.mono g1.ok.full).mono g2.ex).mono g3.ex
    cases r1' with
    | scr h1 =>
      have G := (g1.trans g2).trans g3
      refine ⟨_, _, rfl, h1, fun p hp => ?_⟩
      rw [cutV_ints]
      exact q p (T3.put p _) (G.trans (Grow.put G.ok hp)) (Same.free G.ex hp) (G.ok.i_none hp) upd_same
end
end Lf

set_option Elab.async false
set_option linter.all false
set_option maxRecDepth 100000
set_option maxHeartbeats 2000000
set_option autoImplicit false
namespace Lf
open PySem L2
/-! ### == of what is made of numbers, by lists and tuples -/
mutual
def lay : D → Bool
  | .non => true
  | .bl _ => true
  | .int _ => true
  | .il _ => true
  | .scr _ => true
  | .lst ds => lays ds
  | .tup ds => lays ds
  | _ => false
def lays : List D → Bool
  | [] => true
  | d :: r => lay d && lays r
end
mutual
def dep : D → Nat
  | .il _ => 2
  | .scr _ => 2
  | .lst ds => deps ds + 1
  | .tup ds => deps ds + 1
  | _ => 1
def deps : List D → Nat
  | [] => 0
  | d :: r => Nat.max (dep d) (deps r)
end
mutual
theorem lay_plain : ∀ d : D, lay d = true → plain d = true
  | .non, _ => rfl
  | .bl _, _ => rfl
  | .int _, _ => rfl
  | .il _, _ => rfl
  | .scr _, _ => rfl
  | .lst ds, h => by rw [lay] at h; rw [plain]; exact lays_plain ds h
  | .tup ds, h => by rw [lay] at h; rw [plain]; exact lays_plain ds h
  | .str _, h => by cases h
  | .obj _ _, h => by cases h
  | .ptr _, h => by cases h
theorem lays_plain : ∀ ds : List D, lays ds = true → plains ds = true
  | [], _ => rfl
  | d :: r, h => by
    rw [lays, Bool.and_eq_true] at h
    rw [plains, lay_plain d h.1, lays_plain r h.2]
    rfl
end
mutual
theorem lay_can : ∀ d : D, lay d = true → (py d).canLay0 = true
  | .non, _ => by rw [py, PyData.canLay0]
  | .bl _, _ => by rw [py, PyData.canLay0]
  | .int _, _ => by rw [py, PyData.canLay0]
  | .il ns, _ => by rw [py, PyData.canLay0]; exact canAll_ints ns
  | .scr ns, _ => by rw [py, PyData.canLay0]; exact canAll_ints ns
  | .lst ds, h => by rw [lay] at h; rw [py, PyData.canLay0]; exact lays_can ds h
  | .tup ds, h => by rw [lay] at h; rw [py, PyData.canLay0]; exact lays_can ds h
  | .str _, h => by cases h
  | .obj _ _, h => by cases h
  | .ptr _, h => by cases h
theorem lays_can : ∀ ds : List D, lays ds = true → PyData.canLayAll0 (pys ds) = true
  | [], _ => by rw [pys, PyData.canLayAll0]
  | d :: r, h => by
    rw [lays, Bool.and_eq_true] at h
    rw [pys, PyData.canLayAll0, lay_can d h.1, lays_can r h.2]
    rfl
end
mutual
theorem dep_le : ∀ d : D, (py d).depth ≤ dep d
  | .non => by rw [py, PyData.depth]; exact Nat.zero_le _
  | .bl _ => by rw [py, PyData.depth]; exact Nat.zero_le _
  | .int _ => by rw [py, PyData.depth]; exact Nat.zero_le _
  | .il ns => by rw [py, PyData.depth, dep]; have := depth_ints ns; omega
  | .scr ns => by rw [py, PyData.depth, dep]; have := depth_ints ns; omega
  | .lst ds => by rw [py, PyData.depth, dep]; have := deps_le ds; omega
  | .tup ds => by rw [py, PyData.depth, dep]; have := deps_le ds; omega
  | .str _ => by rw [py, PyData.depth]; exact Nat.zero_le _
  | .obj _ _ => by rw [py, PyData.depth]; exact Nat.zero_le _
  | .ptr _ => by rw [py, PyData.depth]; exact Nat.zero_le _
theorem deps_le : ∀ ds : List D, PyData.depthAll (pys ds) ≤ deps ds
  | [] => by rw [pys, PyData.depthAll]; exact Nat.zero_le _
  | d :: r => by
    rw [pys, PyData.depthAll, deps]
    have h1 := dep_le d
    have h2 := deps_le r
    exact Nat.max_le.mpr ⟨Nat.le_trans h1 (Nat.le_max_left _ _), Nat.le_trans h2 (Nat.le_max_right _ _)⟩
end
theorem lay_shaped {d : D} (h : lay d = true) (hd : dep d ≤ 64) : SeqAt.shaped (py d) = true := by
  unfold SeqAt.shaped
  rw [lay_can d h, Bool.true_and]
  exact decide_eq_true (Nat.le_trans (dep_le d) hd)
theorem lays_map {α : Type} {g : α → D} (h : ∀ x, lay (g x) = true) : ∀ xs : List α, lays (xs.map g) = true
  | [] => rfl
  | x :: r => by rw [List.map_cons, lays, h x, lays_map h r]; rfl
theorem lay_map {α : Type} {g : α → D} (h : ∀ x, lay (g x) = true) (xs : List α) : lay (.lst (xs.map g)) = true := by rw [lay]; exact lays_map h xs
theorem deps_map {α : Type} {g : α → D} {n : Nat} (h : ∀ x, dep (g x) ≤ n) : ∀ xs : List α, deps (xs.map g) ≤ n
  | [] => Nat.zero_le _
  | x :: r => by rw [List.map_cons, deps]; exact Nat.max_le.mpr ⟨h x, deps_map h r⟩
theorem dep_map {α : Type} {g : α → D} {n : Nat} (h : ∀ x, dep (g x) ≤ n) (xs : List α) : dep (.lst (xs.map g)) ≤ n + 1 := by rw [dep]; exact Nat.succ_le_succ (deps_map h xs)
/-- a list of lists of numbers; of pairs -/
def ils (xss : List (List Int)) : D := .lst (xss.map D.il)
def prs (ps : List (Int × Int)) : D := .lst (ps.map fun p => D.tup [.int p.1, .int p.2])
theorem lay_ils (xss : List (List Int)) : lay (ils xss) = true := lay_map (fun _ => rfl) xss
theorem lay_prs (ps : List (Int × Int)) : lay (prs ps) = true := lay_map (fun _ => rfl) ps
theorem dep_ils (xss : List (List Int)) : dep (ils xss) ≤ 64 := Nat.le_trans (dep_map (n := 2) (fun _ => Nat.le_refl _) xss) (by decide)
theorem dep_prs (ps : List (Int × Int)) : dep (prs ps) ≤ 64 := Nat.le_trans (dep_map (n := 2) (fun _ => Nat.le_refl _) ps) (by decide)
theorem eqD_refl {d : D} (h : lay d = true) : eqD d d = true := by
  unfold eqD
  exact PySem.SeqAt.eqv_refl _ (lay_can d h)
theorem eqD_lst (a b : D) (as bs : List D) : eqD (.lst (a :: as)) (.lst (b :: bs)) = (eqD a b && eqD (.lst as) (.lst bs)) := by
  unfold eqD
  rw [py, py, pys, pys, PyData.eqv, PyData.eqvAll, py, py, PyData.eqv]
theorem eqD_nil : eqD (.lst []) (.lst []) = true := by
  unfold eqD
  rw [py, pys, PyData.eqv, PyData.eqvAll]
theorem eqD_nil1 (a : D) (as : List D) : eqD (.lst (a :: as)) (.lst []) = false := by
  unfold eqD
  rw [py, py, pys, pys, PyData.eqv, PyData.eqvAll]
theorem eqD_nil2 (a : D) (as : List D) : eqD (.lst []) (.lst (a :: as)) = false := by
  unfold eqD
  rw [py, py, pys, pys, PyData.eqv, PyData.eqvAll]
theorem eqD_map {α : Type} [DecidableEq α] {g : α → D} (h : ∀ x y, eqD (g x) (g y) = decide (x = y)) : ∀ xs ys : List α, eqD (.lst (xs.map g)) (.lst (ys.map g)) = decide (xs = ys)
  | [], [] => by rw [List.map_nil, eqD_nil]; rfl
  | x :: xs, [] => by rw [List.map_cons, List.map_nil, eqD_nil1]; rfl
  | [], y :: ys => by rw [List.map_cons, List.map_nil, eqD_nil2]; rfl
  | x :: xs, y :: ys => by
    rw [List.map_cons, List.map_cons, eqD_lst, eqD_map h xs ys, h]
    by_cases e : x = y
    · subst e; simp
    · simp [e]
theorem eqD_ils (xs ys : List (List Int)) : eqD (ils xs) (ils ys) = decide (xs = ys) := eqD_map eqD_il xs ys
theorem eqD_pair (a b c d : Int) : eqD (.tup [.int a, .int b]) (.tup [.int c, .int d]) = decide ((a, b) = (c, d)) := by
  unfold eqD
  rw [py, py, pys, pys, pys, pys, pys, pys, py, py, py, py, PyData.eqv, PyData.eqvAll, PyData.eqvAll, PyData.eqvAll, PyData.eqv, PyData.eqv]
  by_cases h : a = c
  · by_cases h2 : b = d
    · subst h; subst h2; simp
    · simp [h2]
  · simp [h]
theorem eqD_prs (xs ys : List (Int × Int)) : eqD (prs xs) (prs ys) = decide (xs = ys) := eqD_map (fun x y => eqD_pair x.1 x.2 y.1 y.2) xs ys
section
variable {X : Cx} {e a b c : Expr} {es : List Expr} {ρ : PEnv} {d d1 d2 d3 : D} {l la lb lc : Lv} {pos : Pos}
theorem jc_eqG (hu : X.A.units + 64 < cLine) (ha : JE X la a ρ d1) (hb : JE X lb b ρ d2) (p1 : lay d1 = true := by rfl) (p2 : lay d2 = true := by rfl) (h1 : dep d1 ≤ 64 := by first | decide | exact of_decide_eq_true rfl) (h2 : dep d2 ≤ 64 := by first | decide | exact of_decide_eq_true rfl) : JC X .Eq a b ρ (eqD d1 d2) :=
  jc_eqD hu ha hb (lay_plain _ p1) (lay_plain _ p2) (lay_shaped p1 h1) (lay_shaped p2 h2)
theorem jc_neG (hu : X.A.units + 64 < cLine) (ha : JE X la a ρ d1) (hb : JE X lb b ρ d2) (p1 : lay d1 = true := by rfl) (p2 : lay d2 = true := by rfl) (h1 : dep d1 ≤ 64 := by first | decide | exact of_decide_eq_true rfl) (h2 : dep d2 ≤ 64 := by first | decide | exact of_decide_eq_true rfl) : JC X .NotEq a b ρ (!eqD d1 d2) :=
  jc_neD hu ha hb (lay_plain _ p1) (lay_plain _ p2) (lay_shaped p1 h1) (lay_shaped p2 h2)
end
end Lf

set_option Elab.async false
set_option linter.all false
set_option maxRecDepth 100000
set_option maxHeartbeats 2000000
set_option autoImplicit false
namespace Lf
open PySem L2
/-! ### nodes by their places -/
def root : G → D
  | .d d => d
  | .li b _ => .ptr b
  | .ls b _ => .ptr b
  | .ob b _ _ _ => .ptr b
def G.at : List Nat → G → Option G
  | [], g => some g
  | i :: p, .ls _ gs => match gs[i]? with | some g => G.at p g | none => none
  | i :: p, .ob _ _ _ gs => match gs[i]? with | some g => G.at p g | none => none
  | _ :: _, _ => none
def G.put : List Nat → G → G → G
  | [], x, _ => x
  | i :: p, x, .ls b gs => match gs[i]? with | some g => .ls b (gs.set i (G.put p x g)) | none => .ls b gs
  | i :: p, x, .ob b C fs gs => match gs[i]? with | some g => .ob b C fs (gs.set i (G.put p x g)) | none => .ob b C fs gs
  | _ :: _, _, g => g
section
variable {K : PySem.W.Frag} {Hs H : Hp}
theorem AtGs.get : ∀ {vs : List V} {gs : List G}, AtGs K Hs H vs gs → ∀ {i : Nat} {g : G}, gs[i]? = some g → ∃ v, vs[i]? = some v ∧ AtG K Hs H v g
  | _, _, .nil, i, g, e => by simp at e
  | _, _, .cons h r, 0, g, e => by
    simp at e
    subst e
    exact ⟨_, rfl, h⟩
  | _, _, .cons h r, i + 1, g, e => by
    obtain ⟨v, h1, h2⟩ := r.get (i := i) (g := g) (by simpa using e)
    exact ⟨v, by simpa using h1, h2⟩
theorem AtG.at : ∀ (p : List Nat) {v : V} {g y : G}, AtG K Hs H v g → G.at p g = some y → ∃ w, AtG K Hs H w y
  | [], v, g, y, h, e => by cases e; exact ⟨v, h⟩
  | i :: p, _, _, y, .d _, e => by cases e
  | i :: p, _, _, y, .li _, e => by cases e
  | i :: p, _, _, y, .ls (gs := gs) h r, e => by
    cases q : gs[i]? with
    | none => simp [G.at, q] at e
    | some g1 =>
      obtain ⟨w, _, h2⟩ := r.get q
      simp only [G.at, q] at e
      exact AtG.at p h2 e
  | i :: p, _, _, y, .ob (gs := gs) h l r, e => by
    cases q : gs[i]? with
    | none => simp [G.at, q] at e
    | some g1 =>
      obtain ⟨w, _, h2⟩ := r.get q
      simp only [G.at, q] at e
      exact AtG.at p h2 e
theorem AtG.root {v : V} {g : G} (h : AtG K Hs H v g) : Rp K Hs v (Lf.root g) := by
  cases h with
  | d r => exact r
  | li _ => exact .ptr _
  | ls _ _ => exact .ptr _
  | ob _ _ _ => exact .ptr _
theorem AtGs.roots : ∀ {vs : List V} {gs : List G}, AtGs K Hs H vs gs → RpAll K Hs vs (gs.map Lf.root)
  | _, _, .nil => .nil
  | _, _, .cons h r => .cons h.root r.roots
theorem mem_addss : ∀ {gs : List G} {i : Nat} {g : G} {b : Addr}, gs[i]? = some g → b ∈ adds g → b ∈ addss gs
  | [], i, g, b, e, _ => by simp at e
  | x :: r, 0, g, b, e, m => by
    simp at e
    subst e
    rw [addss]
    exact List.mem_append_left _ m
  | x :: r, i + 1, g, b, e, m => by
    rw [addss]
    exact List.mem_append_right _ (mem_addss (i := i) (by simpa using e) m)
theorem AtGs.putAt {b : Addr} {o : HO} : ∀ (i : Nat) {vs : List V} {gs : List G} {g1 x1 : G}, AtGs K Hs H vs gs → (addss gs).Nodup → gs[i]? = some g1 → b ∈ adds g1 → (∀ w, AtG K Hs H w g1 → AtG K Hs (upd H b o) w x1) → adds x1 = adds g1 →
    AtGs K Hs (upd H b o) vs (gs.set i x1) ∧ addss (gs.set i x1) = addss gs
  | _, _, _, g1, x1, .nil, _, e, _, _, _ => by simp at e
  | 0, _, _, g1, x1, .cons (g := g) (gs := r0) h r, nd, e, m, k, ea => by
    simp at e
    subst e
    rw [addss] at nd
    have n2 := (List.nodup_append.mp nd).2.2
    exact ⟨.cons (k _ h) (r.off fun z => n2 b m b z rfl), by rw [List.set_cons_zero, addss, addss, ea]⟩
  | i + 1, _, _, g1, x1, .cons (g := g) (gs := r0) h r, nd, e, m, k, ea => by
    rw [addss] at nd
    have n2 := List.nodup_append.mp nd
    have e' : r0[i]? = some g1 := by simpa using e
    obtain ⟨h1, h2⟩ := AtGs.putAt i r n2.2.1 e' m k ea
    exact ⟨.cons (h.off fun z => n2.2.2 b z b (mem_addss e' m) rfl) h1, by rw [List.set_cons_succ, addss, addss, h2]⟩
theorem at_adds : ∀ (p : List Nat) {g y : G} {b : Addr}, G.at p g = some y → b ∈ adds y → b ∈ adds g
  | [], g, y, b, e, m => by cases e; exact m
  | i :: p, .d _, y, b, e, m => by cases e
  | i :: p, .li _ _, y, b, e, m => by cases e
  | i :: p, .ls c gs, y, b, e, m => by
    cases q : gs[i]? with
    | none => simp [G.at, q] at e
    | some g1 =>
      simp only [G.at, q] at e
      rw [adds]
      exact List.mem_cons_of_mem _ (mem_addss q (at_adds p e m))
  | i :: p, .ob c C fs gs, y, b, e, m => by
    cases q : gs[i]? with
    | none => simp [G.at, q] at e
    | some g1 =>
      simp only [G.at, q] at e
      rw [adds]
      exact List.mem_cons_of_mem _ (mem_addss q (at_adds p e m))
theorem nodup_get : ∀ {gs : List G} {i : Nat} {g : G}, gs[i]? = some g → (addss gs).Nodup → (adds g).Nodup
  | [], i, g, e, _ => by simp at e
  | x :: r, 0, g, e, nd => by
    simp at e
    subst e
    rw [addss] at nd
    exact (List.nodup_append.mp nd).1
  | x :: r, i + 1, g, e, nd => by
    rw [addss] at nd
    exact nodup_get (i := i) (by simpa using e) (List.nodup_append.mp nd).2.1
theorem AtG.putAt {b : Addr} {o : HO} {y x : G} (hx : ∀ w, AtG K Hs H w y → AtG K Hs (upd H b o) w x) (ea : adds x = adds y) (m : b ∈ adds y) : ∀ (p : List Nat) {v : V} {g : G}, AtG K Hs H v g → (adds g).Nodup → G.at p g = some y →
    AtG K Hs (upd H b o) v (G.put p x g) ∧ adds (G.put p x g) = adds g
  | [], v, g, h, nd, e => by cases e; exact ⟨hx v h, ea⟩
  | i :: p, _, _, .d _, _, e => by cases e
  | i :: p, _, _, .li _, _, e => by cases e
  | i :: p, _, _, .ls (b := c) (gs := gs) h r, nd, e => by
    cases q : gs[i]? with
    | none => simp [G.at, q] at e
    | some g1 =>
      simp only [G.at, q] at e
      simp only [G.put, q]
      rw [adds] at nd
      have n2 := List.nodup_cons.mp nd
      have mb := at_adds p e m
      have hc : c ≠ b := fun z => n2.1 (by rw [z]; exact mem_addss q mb)
      have k : ∀ w, AtG K Hs H w g1 → AtG K Hs (upd H b o) w (G.put p x g1) ∧ adds (G.put p x g1) = adds g1 := fun w hw => AtG.putAt hx ea m p hw (nodup_get q n2.2) e
      obtain ⟨w0, _, hw0⟩ := r.get q
      obtain ⟨h1, h2⟩ := AtGs.putAt i r n2.2 q mb (fun w hw => (k w hw).1) (k w0 hw0).2
      exact ⟨.ls (by rw [upd_ne hc]; exact h) h1, by rw [adds, adds, h2]⟩
  | i :: p, _, _, .ob (b := c) (gs := gs) h l r, nd, e => by
    cases q : gs[i]? with
    | none => simp [G.at, q] at e
    | some g1 =>
      simp only [G.at, q] at e
      simp only [G.put, q]
      rw [adds] at nd
      have n2 := List.nodup_cons.mp nd
      have mb := at_adds p e m
      have hc : c ≠ b := fun z => n2.1 (by rw [z]; exact mem_addss q mb)
      have k : ∀ w, AtG K Hs H w g1 → AtG K Hs (upd H b o) w (G.put p x g1) ∧ adds (G.put p x g1) = adds g1 := fun w hw => AtG.putAt hx ea m p hw (nodup_get q n2.2) e
      obtain ⟨w0, _, hw0⟩ := r.get q
      obtain ⟨h1, h2⟩ := AtGs.putAt i r n2.2 q mb (fun w hw => (k w hw).1) (k w0 hw0).2
      exact ⟨.ob (by rw [upd_ne hc]; exact h) l h1, by rw [adds, adds, h2]⟩
end
/-! ### new trees -/
def W3.keep (T : W3) (A : List Addr) : W3 := ⟨uni T.i (restr A T.h), uni T.n (restr A T.h), T.h⟩
theorem Grow.keep {T T' : W3} (g : Grow T T') {A : List Addr} (hA : ∀ b, b ∈ A → T.h b = none ∧ T'.i b = none) : Grow T (T'.keep A) := by
  have dj : ∀ a, restr A T'.h a ≠ none → T'.i a = none := fun a h => (hA a (restr_dom h)).2
  have fresh : ∀ {B : Hp} (a : Addr), B a = none → T.h a ≠ none → uni B (restr A T'.h) a = none := fun {B} a q r => by
    rw [uni_right q]
    cases e : restr A T'.h a with
    | none => rfl
    | some u => exact absurd (hA a (restr_dom (by rw [e]; intro z; cases z))).1 r
  exact ⟨⟨uni_mono g.ok.ni dj, uni_to g.ok.ih restr_same⟩, g.ex, g.xi.trans uni_l, g.xn.trans uni_l, fun a q r => fresh a (g.fi a q r) r, fun a q r => fresh a (g.fn a q r) r⟩
theorem keep_n {T : W3} (o : Ok T) {A : List Addr} {b : Addr} (m : b ∈ A) (h : T.i b = none) : (T.keep A).n b = T.h b := by
  show uni T.n (restr A T.h) b = T.h b
  rw [uni_right (o.n_none' h), restr_in m]
/-- e comes to a new tree that is d, its leaves held at l -/
def JU (X : Cx) (l : Lv) (e : Expr) (ρ : PEnv) (d : D) : Prop :=
  ∀ (T : W3) (σ : L2.St) (Q : VK), Fr X.K T σ ρ → (∀ v g T', Grow T T' → erase g = d → AtG X.K (T'.at l) T'.h v g → (∀ b, b ∈ adds g → T.h b = none ∧ T'.i b = none) → Nd g → Q v T'.h) → wE X e σ T.h Q
theorem erases_d : ∀ ds : List D, erases (ds.map G.d) = ds
  | [] => rfl
  | d :: r => by rw [List.map_cons, erases, erase, erases_d r]
theorem addss_d : ∀ ds : List D, addss (ds.map G.d) = []
  | [] => rfl
  | d :: r => by rw [List.map_cons, addss, adds, addss_d r]; rfl
theorem okGs_d : ∀ ds : List D, okGs (ds.map G.d) = ds.all leafD
  | [] => rfl
  | d :: r => by rw [List.map_cons, okGs, okG, okGs_d r]; rfl
theorem RpAll.gs {K : PySem.W.Frag} {Hs H : Hp} : ∀ {vs : List V} {ds : List D}, RpAll K Hs vs ds → AtGs K Hs H vs (ds.map G.d)
  | _, _, .nil => .nil
  | _, _, .cons h r => .cons (.d h) r.gs
theorem erases_append : ∀ (gs hs : List G), erases (gs ++ hs) = erases gs ++ erases hs
  | [], _ => rfl
  | g :: r, hs => by rw [List.cons_append, erases, erases, erases_append r hs]; rfl
theorem addss_append : ∀ (gs hs : List G), addss (gs ++ hs) = addss gs ++ addss hs
  | [], _ => rfl
  | g :: r, hs => by rw [List.cons_append, addss, addss, addss_append r hs, List.append_assoc]
theorem erases_length : ∀ gs : List G, (erases gs).length = gs.length
  | [] => rfl
  | g :: r => by rw [erases, List.length_cons, List.length_cons, erases_length r]
theorem AtGs.append {K : PySem.W.Frag} {Hs H : Hp} : ∀ {vs ws : List V} {gs hs : List G}, AtGs K Hs H vs gs → AtGs K Hs H ws hs → AtGs K Hs H (vs ++ ws) (gs ++ hs)
  | _, _, _, _, .nil, r => r
  | _, _, _, _, .cons h r, r' => .cons h (r.append r')
section
variable {X : Cx} {e a b c : Expr} {es : List Expr} {ρ ρ1 : PEnv} {d d1 d2 d3 : D} {l la lb lc : Lv} {pos p p2 : Pos} {i j k : Int} {ns ms : List Int} {ds fs : List D} {kt : Nat} {x y z : Str} {st : Stmt} {sts : List Stmt} {P : PEnds}
theorem JOI.ju (h : JOI X e ρ ns) : JU X .frs e ρ (.il ns) := fun T σ Q F q => h T σ Q F fun a T' g h0 hi hh =>
  q (.ref a) (.li a ns) T' g rfl (.li hh) (fun b m => by rw [adds, List.mem_singleton] at m; subst m; exact ⟨h0, hi⟩) ⟨by rw [adds]; exact List.nodup_cons.mpr ⟨List.not_mem_nil, List.nodup_nil⟩, rfl⟩
theorem JO.ju (h : JO X l e ρ ds) (hd : ds.all leafD = true) : JU X l e ρ (.lst ds) := fun T σ Q F q => h T σ Q F fun a vs T' g h0 hi hh r =>
  q (.ref a) (.ls a (ds.map G.d)) T' g (by rw [erase, erases_d]) (.ls hh r.gs) (fun b m => by rw [adds, addss_d, List.mem_singleton] at m; subst m; exact ⟨h0, hi⟩) ⟨by rw [adds, addss_d]; exact List.nodup_cons.mpr ⟨List.not_mem_nil, List.nodup_nil⟩, by rw [okG, okGs_d]; exact hd⟩
theorem JU.je (h : JU X .frs e ρ d) : JE X .frs e ρ d := fun T σ Q F q => h T σ Q F fun v g T' G e r m nd => by
  subst e
  exact q v (T'.keep (adds g)) (G.keep m) (r.rp (H2 := (T'.keep (adds g)).n) uni_l fun b mb => keep_n G.ok mb (m b mb).2)
theorem JU.eq (h : JU X l e ρ d) (q : d = d1) : JU X l e ρ d1 := by rw [← q]; exact h
theorem js_setU (n : Nat) {p' : Pos} (he : JU X l e ρ d) (h : ∀ g, erase g = d → okG g = true → P.nx (ρ.set n (some (.tr l g)))) (hl : l ≠ .full := by decide) (hN : X.N.Nodup) (hi : X.N[n]? = some x := by rfl) (hx : Loc X.env.scope x := by first | exact Or.inl rfl | exact Or.inr rfl)
    (hs : swapsWith e (some (.Name x p')) pos.line X.env = pure false := by exact sw_ns rfl) (hf : X.fn x = true ∨ X.env.scope.names.lookup x = some .local := by exact Or.inl rfl) : JS X (.Assign [.Name x p'] e pos) P ρ :=
  JS.of (ps_set (i := n) hN hi hx pe_w hs hf) fun T σ D F m => he T σ _ F fun v g T' G eg r q nd =>
    m.nx _ _ T' G.w ((F.grow G).setTr ⟨hl, r, fun b mb => (q b mb).2, nd.nd⟩ fun b mb => F.fresh (q b mb).1) (h g eg nd.ok)
theorem js_retU (he : JU X .frs e ρ d) (h : P.ru d) : JS X (.Return (some e) pos) P ρ :=
  JS.of (ps_ret pe_w) fun T σ D F m => he T σ _ F fun v g T' G eg r q nd => m.ru g v T' G.w (by rw [eg]; exact h) r (fun b mb => (q b mb).2) nd

/-- an own list of ints is given back -/
theorem js_retO (n : Nat) {p' : Pos} (hr : ρ[n]? = some (some (.ownI ns))) (h : P.ru (.il ns)) (hN : X.N[n]? = some x := by rfl) (hv : Vis X.env.scope x := by first | exact Or.inl rfl | exact Or.inr (Or.inl rfl) | exact Or.inr (Or.inr rfl)) (hd : (x == ("__debug__" : Str)) = false := by decide)
    (hcd : (x == ("__classdict__" : Str)) = false := by decide) : JS X (.Return (some (.Name x p')) pos) P ρ :=
  JS.of (ps_ret (pe_var hN hv hd hcd)) fun T σ D F m => by
    obtain ⟨v, h1, a, rfl, h2, h3⟩ := F.val n _ hr
    exact ⟨_, h1, m.ru (.li a ns) _ T (Gw.refl F.ok) h (.li h2) (fun b mb => by rw [adds, List.mem_singleton] at mb; subst mb; exact h3) ⟨by rw [adds]; exact List.nodup_cons.mpr ⟨List.not_mem_nil, List.nodup_nil⟩, rfl⟩⟩
/-- .. an own list of constants and tuples -/
theorem js_retOD (n : Nat) {p' : Pos} (hr : ρ[n]? = some (some (.own .frs ds))) (h : P.ru (.lst ds)) (hl : ds.all leafD = true) (hN : X.N[n]? = some x := by rfl) (hv : Vis X.env.scope x := by first | exact Or.inl rfl | exact Or.inr (Or.inl rfl) | exact Or.inr (Or.inr rfl)) (hd : (x == ("__debug__" : Str)) = false := by decide)
    (hcd : (x == ("__classdict__" : Str)) = false := by decide) : JS X (.Return (some (.Name x p')) pos) P ρ :=
  JS.of (ps_ret (pe_var hN hv hd hcd)) fun T σ D F m => by
    obtain ⟨v, h1, _, a, vs, rfl, h2, h3, rr⟩ := F.val n _ hr
    exact ⟨_, h1, m.ru (.ls a (ds.map G.d)) _ T (Gw.refl F.ok) (by rw [erase, erases_d]; exact h) (.ls h2 rr.gs) (fun b mb => by rw [adds, addss_d, List.mem_singleton] at mb; subst mb; exact h3)
      ⟨by rw [adds, addss_d]; exact List.nodup_cons.mpr ⟨List.not_mem_nil, List.nodup_nil⟩, by rw [okG, okGs_d]; exact hl⟩⟩
/-- .. a tree -/
theorem js_retT (n : Nat) {p' : Pos} {g : G} (hr : ρ[n]? = some (some (.tr .frs g))) (h : P.ru (erase g)) (ho : okG g = true) (hN : X.N[n]? = some x := by rfl) (hv : Vis X.env.scope x := by first | exact Or.inl rfl | exact Or.inr (Or.inl rfl) | exact Or.inr (Or.inr rfl)) (hd : (x == ("__debug__" : Str)) = false := by decide)
    (hcd : (x == ("__classdict__" : Str)) = false := by decide) : JS X (.Return (some (.Name x p')) pos) P ρ :=
  JS.of (ps_ret (pe_var hN hv hd hcd)) fun T σ D F m => by
    obtain ⟨v, h1, _, rt, hi, nd⟩ := F.val n _ hr
    exact ⟨_, h1, m.ru g _ T (Gw.refl F.ok) h rt hi ⟨nd, ho⟩⟩

/-! ### defs that make a new tree -/
def spU (K : PySem.W.Frag) (pre : List D → Prop) (G : List D → D) : Sp := fun vs H Q _ => ∃ ds, RpAll K H vs ds ∧ pre ds ∧
  ∀ v g H' Hn, Same H H' → Same Hn H' → (∀ a, Hn a ≠ none → H a = none) → erase g = G ds → AtG K Hn H' v g → (∀ b, b ∈ adds g → H b = none ∧ Hn b = none) → Nd g → Q v H'
theorem spU_of {K : PySem.W.Frag} {pre : List D → Prop} {G : List D → D} (vs : List V) (H : Hp) (Q : VK) (E : XK) (h : spF K pre G vs H Q E) : spU K pre G vs H Q E := by
  obtain ⟨ds, r, hp, q⟩ := h
  refine ⟨ds, r, hp, fun v g H' Hn s1 s2 dj eg rg fr nd => q v H' (uni Hn (restr (adds g) H')) s1 (uni_to s2 restr_same) (fun a ha => ?_) ?_⟩
  · cases e : Hn a with
    | some o => exact dj a (by rw [e]; intro z; cases z)
    | none =>
      rw [uni_right e] at ha
      exact (fr a (restr_dom ha)).1
  · rw [← eg]
    exact rg.rp uni_l fun b mb => by rw [uni_right (fr b mb).2, restr_in mb]
structure CalleeU (P : Program) (w : World) (K : PySem.W.Frag) (mg : Str → Option Value) (base : Heap) (k : Nat) (x : Str) (pre : List D → Prop) (G : List D → D) : Prop where
  ex : ∃ (f : Addr) (fd : FuncData) (ps : List Str), FnOk P w K mg base CX0 k f fd ps (spU K pre G) ∧ mg x = some (.ref f) ∧ PySem.W.keepIn K (.ref f) = true ∧ Binds K fd ps []
theorem CalleeU.callee {P : Program} {w : World} {K : PySem.W.Frag} {mg : Str → Option Value} {base : Heap} {k : Nat} {x : Str} {pre : List D → Prop} {G : List D → D} (C : CalleeU P w K mg base k x pre G) : Callee P w K mg base k x pre G := by
  obtain ⟨f, fd, ps, F, h⟩ := C.ex
  exact ⟨f, fd, ps, F.imp spU_of, h⟩
theorem ju_call {m n : Nat} {pre : List D → Prop} {G : List D → D} (C : CalleeU X.prog X.w X.K X.mg X.base m x pre G) (hr : Room n X.A) (ha : JA X .full (e :: es) ρ ds) (hp : pre ds) (hq : G ds = d := by rfl) (hk : m ≤ n := by decide) (hg : Gl X x := by rfl) (hdb : (x == ("__debug__" : Str)) = false := by decide)
    (he : starEach (e :: es) X.env = (false, eval e X.env) :: starEach es X.env := by exact star_c rfl) (hpl : (backTo pos (starEach es X.env)).any (·.1) = false := by exact back_ns rfl) : JU X .frs (.Call (.Name x p) (e :: es) [] pos) ρ d := by
  subst hq
  obtain ⟨f, fd, ps, F, hm, hkp, hb⟩ := C.ex
  intro T σ Q Fm q pins s I
  refine (pe_call F (hr.mono hk) hg hm hkp hb .nil pass0 pa_w hdb he hpl).run pins s σ T.h Q I (ha T σ _ Fm fun vs T1 g1 r1 => ?_)
  refine ⟨ds, by rw [List.append_nil]; exact r1, hp, fun v g H' Hn h1 h2 dj eg rg fr nd => q v g ⟨uni T1.i Hn, uni T1.n Hn, H'⟩ (g1.trans (Grow.called g1.ok h1 h2 dj)) eg (rg.mono (uni_r fun a h => g1.ok.n_none (dj a h)) (Same.refl _)) (fun b mb => ⟨Same.free g1.ex (fr b mb).1, ?_⟩) nd⟩
  show uni T1.i Hn b = none
  rw [uni_right (g1.ok.i_none (fr b mb).1)]
  exact (fr b mb).2
theorem fn_okU {P : Program} {w : World} {K : PySem.W.Frag} {mg : Str → Option Value} {base : Heap} {x qual : Str} {st : Stmt} {f : Addr} {fd : FuncData} {N ps : List Str} {k : Nat} {pre : List D → Prop} {G : List D → D} (F : Fun K x qual st f fd) (S : FnScope N ps (defScope st))
    (hpre : ∀ ds, pre ds → ds.length = ps.length)
    (body : ∀ (cdv : Value) (A : Around) (outer : List Env) (s : Shared) (H : Hp) (E : XK), Room k (A.deeper (PyProof.Rows.envOfC qual (defScope st) s.heap.objs.size f cdv)) → ∀ ds, pre ds →
      JSs (cxOf CX0 P w K mg base N qual (defScope st) f cdv A outer s H E).nox (defBody st) { nx := fun _ => False, rt := fun _ => False, ru := fun d => d = G ds } (startE N.length ds)) :
    FnOk P w K mg base CX0 (k + 1) f fd ps (spU K pre G) := by
  refine F.ok S (fun vs H Q E ⟨ds, r, hp, _⟩ => by rw [r.length]; exact hpre ds hp) fun cdv A outer s H vs Q E hr ⟨ds, r, hp, q⟩ => ?_
  have hlen : ds.length ≤ N.length := by
    rw [hpre ds hp]
    have := congrArg List.length S.pre
    rw [List.length_take] at this
    omega
  refine ⟨_, pss_w, body cdv A outer s H E hr ds hp ⟨H, fun _ => none, H⟩ _ _ (fr_start r hlen) ⟨fun ρ σ T' g F' z => z.elim, fun d v T' g z => z.elim, fun ρ σ T' g F' z => z.elim, fun ρ σ T' g F' z => z.elim, fun g v T' gw eg rg fr nd => ?_, fun _ _ _ _ _ _ _ z => z.elim⟩⟩
  have fb : ∀ b, b ∈ adds g → H b = none := fun b mb => by
    cases z : H b with
    | none => rfl
    | some o =>
      have z2 := gw.xi b o z
      rw [fr b mb] at z2
      cases z2
  refine q v g T'.h T'.n (gw.xi.trans gw.ok.ih) (gw.ok.ni.trans gw.ok.ih) (fun a h => ?_) eg rg (fun b mb => ⟨fb b mb, gw.ok.n_none' (fr b mb)⟩) nd
  cases z : H a with
  | none => rfl
  | some o => exact absurd (gw.fn a rfl (by show H a ≠ none; rw [z]; intro y; cases y) (by show H a ≠ none; rw [z]; intro y; cases y)) h
end
end Lf

set_option Elab.async false
set_option linter.all false
set_option maxRecDepth 100000
set_option maxHeartbeats 2000000
set_option autoImplicit false
namespace Lf
open PySem L2
/-! ### shapes of trees -/
theorem okG_il {g : G} {ns : List Int} (h : erase g = .il ns) (o : okG g = true) : ∃ b, g = .li b ns := by
  cases g with
  | d d => rw [erase] at h; subst h; cases o
  | li b m => rw [erase] at h; cases h; exact ⟨b, rfl⟩
  | ls b gs => rw [erase] at h; cases h
  | ob b C fs gs => rw [erase] at h; cases h
theorem okG_lst {g : G} {ds : List D} (h : erase g = .lst ds) (o : okG g = true) : ∃ b gs, g = .ls b gs ∧ erases gs = ds ∧ okGs gs = true := by
  cases g with
  | d d => rw [erase] at h; subst h; cases o
  | li b m => rw [erase] at h; cases h
  | ls b gs => rw [erase] at h; cases h; rw [okG] at o; exact ⟨b, gs, rfl, rfl, o⟩
  | ob b C fs gs => rw [erase] at h; cases h
theorem okG_obj {g : G} {C : Addr} {fs : List (Str × D)} (h : erase g = .obj C fs) (o : okG g = true) : ∃ b gs, g = .ob b C (fs.map (·.1)) gs ∧ erases gs = fs.map (·.2) ∧ okGs gs = true := by
  cases g with
  | d d => rw [erase] at h; subst h; cases o
  | li b m => rw [erase] at h; cases h
  | ls b gs => rw [erase] at h; cases h
  | ob b C' ns gs =>
    rw [erase] at h
    cases h
    rw [okG, Bool.and_eq_true] at o
    have e : ns.length = (erases gs).length := by rw [erases_length]; exact eq_of_beq o.1
    refine ⟨b, gs, ?_, ?_, o.2⟩
    · rw [List.map_fst_zip (Nat.le_of_eq e)]
    · rw [List.map_snd_zip (Nat.le_of_eq e.symm)]
theorem okGs_cons {gs : List G} {d : D} {ds : List D} (h : erases gs = d :: ds) (o : okGs gs = true) : ∃ g r, gs = g :: r ∧ erase g = d ∧ okG g = true ∧ erases r = ds ∧ okGs r = true := by
  cases gs with
  | nil => rw [erases] at h; cases h
  | cons g r =>
    rw [erases] at h
    cases h
    rw [okGs, Bool.and_eq_true] at o
    exact ⟨g, r, rfl, rfl, o.1, rfl, o.2⟩
theorem okGs_nil {gs : List G} (h : erases gs = []) : gs = [] := by
  cases gs with
  | nil => rfl
  | cons g r => rw [erases] at h; cases h
/-! no tuple within -/
mutual
def bareD : D → Bool
  | .tup _ => false
  | .lst ds => bareDs ds
  | .obj _ fs => bareFs fs
  | _ => true
def bareDs : List D → Bool
  | [] => true
  | d :: r => bareD d && bareDs r
def bareFs : List (Str × D) → Bool
  | [] => true
  | (_, d) :: r => bareD d && bareFs r
end
theorem bareFs_zip : ∀ {fs : List Str} {ds : List D}, fs.length = ds.length → bareFs (fs.zip ds) = bareDs ds
  | [], [], _ => rfl
  | f :: fs, d :: ds, h => by rw [List.zip_cons_cons, bareFs, bareDs, bareFs_zip (Nat.succ.inj h)]
  | [], _ :: _, h => by cases h
  | _ :: _, [], h => by cases h
mutual
theorem AtG.bare {K : PySem.W.Frag} {Hs Ht H : Hp} : ∀ {v : V} {g : G}, AtG K Hs H v g → okG g = true → bareD (erase g) = true → AtG K Ht H v g
  | _, _, .d (d := d) r, o, b => .d (r.scal (by
      rw [okG] at o
      rw [erase] at b
      cases d <;> first | exact o | cases b))
  | _, _, .li h, _, _ => .li h
  | _, _, .ls h r, o, b => by
    rw [okG] at o
    rw [erase, bareD] at b
    exact .ls h (AtGs.bare r o b)
  | _, _, .ob h l r, o, b => by
    rw [okG, Bool.and_eq_true] at o
    rw [erase, bareD, bareFs_zip (by rw [erases_length]; exact eq_of_beq o.1)] at b
    exact .ob h l (AtGs.bare r o.2 b)
theorem AtGs.bare {K : PySem.W.Frag} {Hs Ht H : Hp} : ∀ {vs : List V} {gs : List G}, AtGs K Hs H vs gs → okGs gs = true → bareDs (erases gs) = true → AtGs K Ht H vs gs
  | _, _, .nil, _, _ => .nil
  | _, _, .cons h r, o, b => by
    rw [okGs, Bool.and_eq_true] at o
    rw [erases, bareDs, Bool.and_eq_true] at b
    exact .cons (h.bare o.1 b.1) (AtGs.bare r o.2 b.2)
end
/-! ### classes made by their __init__ -/
def spIU (K : PySem.W.Frag) (C : Addr) (pre : List D → Prop) (G : List D → D) : Sp := fun vs H Q _ => ∃ (x dx : Addr) (us : List V) (ds : List D) (H0 : Hp), vs = .ref x :: us ∧ H x = some (.ins C dx []) ∧ H0 x = none ∧ Same H0 H ∧ RpAll K H0 us ds ∧ pre ds ∧
  ∀ g H' Hm, (∀ b o, H b = some o → b ≠ x → H' b = some o) → Same H0 Hm → Same Hm H' → (∀ a, H0 a = none → H a ≠ none → Hm a = none) → AtG K Hm H' (.ref x) g → erase g = G ds → (∀ b, b ∈ adds g → b ≠ x → H b = none) → (∀ b, b ∈ adds g → Hm b = none) → Nd g → Q .non H'
structure MakerU (P : Program) (w : World) (K : PySem.W.Frag) (mg : Str → Option Value) (base : Heap) (k : Nat) (x : Str) (C : Addr) (pre : List D → Prop) (G : List D → D) : Prop where
  mgC : mg x = some (.ref C)
  ex : ∃ (f : Addr) (fd : FuncData) (ps : List Str), FnOk P w K mg base CX0 k f fd ps (spIU K C pre G) ∧ Mk K C f ∧ Binds K fd ps []
theorem uni_rc {A B C : Hp} (h1 : Same A C) (h2 : Same B C) : Same B (uni A B) := fun a o h => by
  unfold uni
  cases e : A a with
  | none => exact h
  | some u =>
    have a1 := h1 a u e
    have a2 := h2 a o h
    rw [a1] at a2
    exact a2
section
variable {X : Cx} {e a b c : Expr} {es : List Expr} {ρ ρ1 : PEnv} {d d1 d2 d3 : D} {l la lb lc : Lv} {pos p p2 : Pos} {i j k : Int} {ns ms : List Int} {ds fs : List D} {kt : Nat} {x y z : Str} {st : Stmt} {sts : List Stmt} {P : PEnds}
/-- C(args), the arguments held in what is new and stays -/
theorem ju_make {m n : Nat} {C : Addr} {pre : List D → Prop} {G : List D → D} (M : MakerU X.prog X.w X.K X.mg X.base m x C pre G) (hr : Room n X.A) (ha : JA X .frs (e :: es) ρ ds) (hp : pre ds) (hq : G ds = d := by rfl) (hk : m + 1 ≤ n := by decide) (hg : Gl X x := by rfl) (hdb : (x == ("__debug__" : Str)) = false := by decide)
    (he : starEach (e :: es) X.env = (false, eval e X.env) :: starEach es X.env := by exact star_c rfl) (hpl : (backTo pos (starEach es X.env)).any (·.1) = false := by exact back_ns rfl) : JU X .frs (.Call (.Name x p) (e :: es) [] pos) ρ d := by
  subst hq
  obtain ⟨f, fd, ps, F, mk, hb⟩ := M.ex
  intro T σ Q Fm q pins s I
  refine (pe_make mk F (hr.mono hk) hg M.mgC hb .nil pass0 pa_w hdb he hpl).run pins s σ T.h Q I (ha T σ _ Fm fun vs T1 g1 r1 => ?_)
  intro y dx ny nd ne
  have s1 : Same T1.h (upd (upd T1.h dx (.own y)) y (.ins C dx [])) := (same_new nd).trans (same_new (by rw [upd_ne ne.symm]; exact ny))
  have sn : Same T1.n T1.h := g1.ok.ni.trans g1.ok.ih
  refine ⟨y, dx, vs, ds, T1.n, by rw [List.append_nil], upd_same, Same.free sn ny, sn.trans s1, r1, hp, fun g H' Hm h1 h2 h3 h4 rg eg f1 f2 nd' => ⟨rfl, ?_⟩⟩
  have s2 : Same T1.h H' := Same.made ny nd h1
  have fr : ∀ b, b ∈ adds g → T1.h b = none := fun b mb => by
    by_cases z : b = y
    · rw [z]; exact ny
    · exact Same.free s1 (f1 b mb z)
  refine q (.ref y) g ⟨uni T1.i Hm, Hm, H'⟩ (g1.trans ⟨⟨uni_rc (g1.ok.ih.trans s2) h3, uni_to (g1.ok.ih.trans s2) h3⟩, s2, uni_l, h2, fun b q1 q2 => ?_, fun b q1 q2 => h4 b q1 (Same.some s1 q2)⟩) eg rg (fun b mb => ⟨Same.free g1.ex (fr b mb), ?_⟩) nd'
  · show uni T1.i Hm b = none
    rw [uni_right q1]
    exact h4 b (Same.free g1.ok.ni q1) (Same.some s1 q2)
  · show uni T1.i Hm b = none
    rw [uni_right (g1.ok.i_none (fr b mb))]
    exact f2 b mb
/-- C(args), of what is made of numbers -/
theorem ju_makeB {m n : Nat} {C : Addr} {pre : List D → Prop} {G : List D → D} (M : MakerU X.prog X.w X.K X.mg X.base m x C pre G) (hr : Room n X.A) (ha : JA X .full (e :: es) ρ ds) (hp : pre ds) (hbare : bareD d = true) (hq : G ds = d := by rfl) (hk : m + 1 ≤ n := by decide) (hg : Gl X x := by rfl) (hdb : (x == ("__debug__" : Str)) = false := by decide)
    (he : starEach (e :: es) X.env = (false, eval e X.env) :: starEach es X.env := by exact star_c rfl) (hpl : (backTo pos (starEach es X.env)).any (·.1) = false := by exact back_ns rfl) : JU X .frs (.Call (.Name x p) (e :: es) [] pos) ρ d := by
  subst hq
  obtain ⟨f, fd, ps, F, mk, hb⟩ := M.ex
  intro T σ Q Fm q pins s I
  refine (pe_make mk F (hr.mono hk) hg M.mgC hb .nil pass0 pa_w hdb he hpl).run pins s σ T.h Q I (ha T σ _ Fm fun vs T1 g1 r1 => ?_)
  intro y dx ny nd ne
  have s1 : Same T1.h (upd (upd T1.h dx (.own y)) y (.ins C dx [])) := (same_new nd).trans (same_new (by rw [upd_ne ne.symm]; exact ny))
  refine ⟨y, dx, vs, ds, T1.h, by rw [List.append_nil], upd_same, ny, s1, r1, hp, fun g H' Hm h1 h2 h3 h4 rg eg f1 f2 nd' => ⟨rfl, ?_⟩⟩
  have s2 : Same T1.h H' := Same.made ny nd h1
  have fr : ∀ b, b ∈ adds g → T1.h b = none := fun b mb => by
    by_cases z : b = y
    · rw [z]; exact ny
    · exact Same.free s1 (f1 b mb z)
  exact q (.ref y) g ⟨T1.i, T1.n, H'⟩ (g1.trans ⟨⟨g1.ok.ni, g1.ok.ih.trans s2⟩, s2, Same.refl _, Same.refl _, fun b q1 q2 => q1, fun b q1 q2 => q1⟩) eg (rg.bare nd'.ok (by rw [eg]; exact hbare)) (fun b mb => ⟨Same.free g1.ex (fr b mb), g1.ok.i_none (fr b mb)⟩) nd'
theorem set_self {α : Type} {l : List α} {n : Nat} {x : α} (h : l[n]? = some x) : l.set n x = l := by
  apply List.ext_getElem?
  intro i
  by_cases e : n = i
  · subst e
    rw [List.getElem?_set_self (List.getElem?_eq_some_iff.mp h).1, h]
  · rw [List.getElem?_set_ne e]
theorem putF_new {f : Str} {v : V} : ∀ {fs : List Str} {vs : List V}, fs.length = vs.length → f ∉ fs → putF f v (fs.zip vs) = (fs ++ [f]).zip (vs ++ [v])
  | [], [], _, _ => rfl
  | g :: fs, w :: vs, h, n => by
    have n1 : g ≠ f := fun z => n (by rw [z]; exact List.mem_cons_self ..)
    rw [List.zip_cons_cons, putF, if_neg n1, putF_new (Nat.succ.inj h) (fun z => n (List.mem_cons_of_mem _ z))]
    rfl
  | [], _ :: _, h, _ => by cases h
  | _ :: _, [], h, _ => by cases h
theorem pe_self {p' : Pos} (n : Nat) (hN : X.N[n]? = some x := by rfl) (hv : Vis X.env.scope x := by first | exact Or.inl rfl | exact Or.inr (Or.inl rfl) | exact Or.inr (Or.inr rfl)) (hd : (x == ("__debug__" : Str)) = false := by decide) (hcd : (x == ("__classdict__" : Str)) = false := by decide) : PE X (.Name x p') (tVar n) := pe_var hN hv hd hcd
/-- self.f = e, a new field -/
theorem js_fldU (n : Nat) {C : Addr} {b : Addr} {f : Str} {nf : List Str} {gs : List G} {ap : Pos} {p' : Pos} (hr : ρ[n]? = some (some (.tr .frs (.ob b C nf gs)))) (he : JU X .frs e ρ d) (h : ∀ g, erase g = d → okG g = true → P.nx (ρ.set n (some (.tr .frs (.ob b C (nf ++ [f]) (gs ++ [g]))))))
    (hc : Cls X.K C) (hno : NoAttr X.K C f) (hf : f ∉ nf := by decide) (hz : nf.length < 1000 := by decide) (hN : X.N[n]? = some x := by rfl) (hv : Vis X.env.scope x := by first | exact Or.inl rfl | exact Or.inr (Or.inl rfl) | exact Or.inr (Or.inr rfl)) (hd : (x == ("__debug__" : Str)) = false := by decide) (hcd : (x == ("__classdict__" : Str)) = false := by decide)
    (hs : swapsWith e (some (.Attribute (.Name x p') f ap)) pos.line X.env = pure false := by exact sw_ns rfl) : JS X (.Assign [.Attribute (.Name x p') f ap] e pos) P ρ :=
  JS.of (ps_fld (pe_var hN hv hd hcd) pe_w hs) fun T σ D F m => he T σ _ F fun w g T1 g1 eg rg fr nd => by
    have F1 := F.grow g1
    obtain ⟨v, h1, hl, rt, hi, hnd⟩ := F1.val n _ hr
    cases rt with
    | @ob _ _ dx _ _ vs hh hlen rr =>
      have hb : b ∈ adds (.ob b C nf gs) := by rw [adds]; exact List.mem_cons_self ..
      have hbi := hi b hb
      have hnd2 := hnd
      rw [adds] at hnd2
      have n2 := List.nodup_cons.mp hnd2
      obtain ⟨v0, h10, _, rt0, _, _⟩ := F.val n _ hr
      have hbT := rt0.dom b hb
      have hbg : b ∉ adds g := fun z => hbT (fr b z).1
      have hgs : ∀ z, z ∈ addss gs → T.h z ≠ none := fun z mz => rt0.dom z (by rw [adds]; exact List.mem_cons_of_mem _ mz)
      refine ⟨_, h1, b, C, dx, _, rfl, hh, hc, hno, ?_, ?_⟩
      · rw [List.length_zip]
        exact Nat.lt_of_le_of_lt (Nat.min_le_left _ _) hz
      have F2 : Fr X.K T1 σ (ρ.set n none) := F1.forget (by rw [List.length_set]) fun j e' hj => by
        rcases getset hj with ⟨_, q⟩ | ⟨_, q⟩
        · cases q
        · exact q
      have no : ∀ z, z ∈ adds (.ob b C nf gs) → NotOwn σ (ρ.set n none) z := fun z mz =>
        ⟨fun j e' hj o s => by
          rcases getset hj with ⟨_, q⟩ | ⟨nj, q⟩
          · cases q
          · exact F1.sepO n j _ e' z hr q mz o s,
        fun j e' hj mz' => by
          rcases getset hj with ⟨_, q⟩ | ⟨nj, q⟩
          · cases q
          · exact nj (F1.sepT n j _ e' z hr q mz mz')⟩
      have no2 : ∀ z, z ∈ adds g → NotOwn σ (ρ.set n none) z := fun z mz => by
        have q := F.fresh (fr z mz).1
        exact ⟨fun j e' hj => by
          rcases getset hj with ⟨_, q'⟩ | ⟨nj, q'⟩
          · cases q'
          · exact q.own j e' q',
        fun j e' hj => by
          rcases getset hj with ⟨_, q'⟩ | ⟨nj, q'⟩
          · cases q'
          · exact q.inn j e' q'⟩
      have F3 := F2.put (o := .ins C dx (putF f w (nf.zip vs))) hbi (no b hb)
      have ea : adds (.ob b C (nf ++ [f]) (gs ++ [g])) = b :: (addss gs ++ adds g) := by
        rw [adds, addss_append, addss, addss, List.append_nil]
      have at_ : AtE X.K (T1.put b (.ins C dx (putF f w (nf.zip vs)))) (.ref b) (.tr .frs (.ob b C (nf ++ [f]) (gs ++ [g]))) := by
        refine ⟨by decide, ?_, fun z mz => ?_, ?_⟩
        · refine .ob (dx := dx) (vs := vs ++ [w]) ?_ (by rw [List.length_append, List.length_append, hlen]; rfl) (AtGs.append (rr.off n2.1) (.cons (rg.off hbg) .nil))
          show upd T1.h b _ b = _
          rw [upd_same, putF_new hlen hf]
        · rw [ea] at mz
          rcases List.mem_cons.mp mz with rfl | mz
          · exact hbi
          · rcases List.mem_append.mp mz with mz | mz
            · exact hi z (by rw [adds]; exact List.mem_cons_of_mem _ mz)
            · exact (fr z mz).2
        · rw [ea]
          refine List.nodup_cons.mpr ⟨fun mz => ?_, List.nodup_append.mpr ⟨n2.2, nd.nd, fun z1 m1 z2 m2 e' => ?_⟩⟩
          · rcases List.mem_append.mp mz with mz | mz
            · exact n2.1 mz
            · exact hbg mz
          · subst e'
            exact hgs z1 m1 (fr z1 m2).1
      have F4 := F3.bind (i := n) at_ (fun o => nomatch o) (fun z mz => by
        have mz' : z ∈ b :: (addss gs ++ adds g) := by rw [← ea]; exact mz
        rcases List.mem_cons.mp mz' with rfl | mz'
        · exact no _ hb
        · rcases List.mem_append.mp mz' with mz' | mz'
          · exact no z (by rw [adds]; exact List.mem_cons_of_mem _ mz')
          · exact no2 z mz')
      rw [set_self h1, List.set_set] at F4
      exact m.nx _ σ _ (g1.w.trans (Gw.put g1.ok hbi)) F4 (h g eg nd.ok)
end
/-! ### the body of an __init__ -/
def startI (n : Nat) (x C : Addr) (ds : List D) : PEnv := some (.tr .frs (.ob x C [] [])) :: (ds.map (fun d => some (.v .frs d)) ++ List.replicate (n - 1 - ds.length) none)
theorem fr_startI {K : PySem.W.Frag} {H H0 : Hp} {N : List Str} {us : List V} {ds : List D} {x C dx : Addr} (r : RpAll K H0 us ds) (hn : ds.length + 1 ≤ N.length) (hx : H x = some (.ins C dx [])) (h0 : H0 x = none) (s0 : Same H0 H) :
    Fr K ⟨fun b => if b = x then none else H b, H0, H⟩ (L2.start N (.ref x :: us)) (startI N.length x C ds) := by
  have ok : Ok ⟨fun b => if b = x then none else H b, H0, H⟩ := ⟨fun a o h => by
    show (if a = x then none else H a) = some o
    have h' : H0 a = some o := h
    rw [if_neg (fun z => by rw [z, h0] at h'; cases h')]
    exact s0 a o h', fun a o h => by
    have h' : (if a = x then none else H a) = some o := h
    split at h'
    · cases h'
    · exact h'⟩
  have get : ∀ {i : Nat} {e : E}, (startI N.length x C ds)[i]? = some (some e) → (i = 0 ∧ e = .tr .frs (.ob x C [] [])) ∨ ∃ j d, i = j + 1 ∧ ds[j]? = some d ∧ e = .v .frs d := fun {i e} h => by
    unfold startI at h
    cases i with
    | zero => simp at h; exact .inl ⟨rfl, h.symm⟩
    | succ i =>
      rw [List.getElem?_cons_succ] at h
      by_cases hi : i < ds.length
      · rw [List.getElem?_append_left (by rw [List.length_map]; exact hi), List.getElem?_map, List.getElem?_eq_getElem hi] at h
        cases h
        exact .inr ⟨i, _, rfl, List.getElem?_eq_getElem hi, rfl⟩
      · rw [List.getElem?_append_right (by rw [List.length_map]; omega), List.getElem?_replicate] at h
        split at h <;> cases h
  have ninn : ∀ {i : Nat} {e : E} {b : Addr}, (startI N.length x C ds)[i]? = some (some e) → b ∈ e.inn → i = 0 := fun {i e b} h m => by
    rcases get h with ⟨rfl, _⟩ | ⟨j, d, _, _, rfl⟩
    · rfl
    · cases m
  have nown : ∀ {i : Nat} {e : E}, (startI N.length x C ds)[i]? = some (some e) → e.isOwn = false := fun {i e} h => by
    rcases get h with ⟨rfl, rfl⟩ | ⟨j, d, _, _, rfl⟩ <;> rfl
  refine ⟨ok, ?_, fun i e h => ?_, fun i j e e' a h1 h2 o1 => ?_, fun i j e e' a h1 h2 m1 m2 => ?_, fun i j e e' a h1 h2 m1 o2 => ?_⟩
  · unfold L2.start startI
    have rl := r.length
    simp only [List.length_append, List.length_cons, List.length_map, List.length_replicate]
    omega
  · rcases get h with ⟨rfl, rfl⟩ | ⟨j, d, rfl, hd, rfl⟩
    · refine ⟨.ref x, rfl, by decide, .ob (dx := dx) (vs := []) hx rfl .nil, fun b m => ?_, ?_⟩
      · rw [adds, addss, List.mem_singleton] at m
        subst m
        show (if b = b then none else H b) = none
        rw [if_pos rfl]
      · rw [adds, addss]
        exact List.nodup_cons.mpr ⟨List.not_mem_nil, List.nodup_nil⟩
    · obtain ⟨v, h1, h2⟩ := r.get hd
      refine ⟨v, ?_, by decide, h2⟩
      unfold L2.start
      have hi : j < us.length := (List.getElem?_eq_some_iff.mp h1).1
      rw [List.getElem?_append_left (by rw [List.length_map, List.length_cons]; omega), List.getElem?_map, List.getElem?_cons_succ, h1]
      rfl
  · rw [nown h1] at o1; cases o1
  · rw [ninn h1 m1, ninn h2 m2]
  · rw [nown h2] at o2; cases o2
theorem fn_okI {P : Program} {w : World} {K : PySem.W.Frag} {mg : Str → Option Value} {base : Heap} {x qual : Str} {st : Stmt} {f : Addr} {fd : FuncData} {N ps : List Str} {k : Nat} {C : Addr} {pre : List D → Prop} {G : List D → D} (F : Fun K x qual st f fd) (S : FnScope N ps (defScope st))
    (hpre : ∀ ds, pre ds → ds.length + 1 = ps.length)
    (body : ∀ (cdv : Value) (A : Around) (outer : List Env) (s : Shared) (H : Hp) (E : XK), Room k (A.deeper (PyProof.Rows.envOfC qual (defScope st) s.heap.objs.size f cdv)) → ∀ (b : Addr) ds, pre ds →
      JSs (cxOf CX0 P w K mg base N qual (defScope st) f cdv A outer s H E).nox (defBody st) { nx := fun ρ' => ∃ nf gs, ρ'[0]? = some (some (.tr .frs (.ob b C nf gs))) ∧ erase (.ob b C nf gs) = G ds ∧ okG (.ob b C nf gs) = true, rt := fun _ => False } (startI N.length b C ds)) :
    FnOk P w K mg base CX0 (k + 1) f fd ps (spIU K C pre G) := by
  refine F.ok S (fun vs H Q E h => ?_) fun cdv A outer s H vs Q E hr h => ?_
  · obtain ⟨y, dx, us, ds, H0, rfl, _, _, _, r, hp, _⟩ := h
    rw [List.length_cons, r.length]
    exact hpre ds hp
  obtain ⟨y, dx, us, ds, H0, rfl, hx, h0, s0, r, hp, q⟩ := h
  have hlen : ds.length + 1 ≤ N.length := by
    rw [hpre ds hp]
    have := congrArg List.length S.pre
    rw [List.length_take] at this
    omega
  refine ⟨_, pss_w, body cdv A outer s H E hr y ds hp ⟨_, H0, H⟩ _ _ (fr_startI r hlen hx h0 s0) ⟨fun ρ σ T' gw F' e => ?_, fun d v T' g z => z.elim, fun ρ σ T' g F' z => z.elim, fun ρ σ T' g F' z => z.elim, fun _ _ _ _ z => z.elim, fun _ _ _ _ _ _ _ z => z.elim⟩⟩
  obtain ⟨nf, gs, hr', eg, ok⟩ := e
  obtain ⟨v, h1, _, rt, hi, nd⟩ := F'.val 0 _ hr'
  have xi : ∀ b o, H b = some o → b ≠ y → T'.i b = some o := fun b o hb ne => gw.xi b o (by
    show (if b = y then none else H b) = some o
    rw [if_neg ne]
    exact hb)
  cases rt with
  | ob hh hl rr =>
    refine q (.ob y C nf gs) T'.h T'.n (fun b o hb ne => gw.ok.ih b o (xi b o hb ne)) gw.xn (gw.ok.ni.trans gw.ok.ih) (fun a h1 h2 => by
      by_cases z : a = y
      · rw [z]; exact gw.ok.n_none' (hi y (by rw [adds]; exact List.mem_cons_self ..))
      · exact gw.fn a h1 (by show (if a = y then none else H a) ≠ none; rw [if_neg z]; exact h2) h2) (.ob hh hl rr) eg (fun b mb ne => ?_) (fun b mb => gw.ok.n_none' (hi b mb)) ⟨nd, ok⟩
    cases e : H b with
    | none => rfl
    | some o =>
      have := xi b o e ne
      rw [hi b mb] at this
      cases this
end Lf

set_option Elab.async false
set_option linter.all false
set_option maxRecDepth 100000
set_option maxHeartbeats 2000000
set_option autoImplicit false
namespace Lf
open PySem L2
/-- a node of a name's tree changes -/
theorem Fr.putT {K : PySem.W.Frag} {T : W3} {σ : L2.St} {ρ : PEnv} (F : Fr K T σ ρ) {n : Nat} {l : Lv} {g y x : G} {p : List Nat} {b : Addr} {o : HO} (hr : ρ[n]? = some (some (.tr l g))) (hat : G.at p g = some y) (mb : b ∈ adds y) (ea : adds x = adds y)
    (hx : ∀ w, AtG K (T.at l) T.h w y → AtG K (T.at l) (upd T.h b o) w x) : Fr K (T.put b o) σ (ρ.set n (some (.tr l (G.put p x g)))) := by
  obtain ⟨v, h1, h2⟩ := F.val n _ hr
  have k : ∀ v, AtG K (T.at l) T.h v g → AtG K (T.at l) (upd T.h b o) v (G.put p x g) ∧ adds (G.put p x g) = adds g := fun v h => AtG.putAt hx ea mb p h h2.2.2.2 hat
  exact F.chgT hr (at_adds p hat mb) (k v h2.2.1).2 fun v' _ h' => (k v' h').1
theorem lookup_zip {K : PySem.W.Frag} {Hs H : Hp} {f : Str} {g1 : G} : ∀ {fs : List Str} {vs : List V} {gs : List G}, AtGs K Hs H vs gs → (fs.zip gs).lookup f = some g1 → ∃ w, (fs.zip vs).lookup f = some w ∧ AtG K Hs H w g1
  | [], _, _, _, e => by simp at e
  | _ :: _, _, _, .nil, e => by simp at e
  | h :: fs, _, _, .cons (v := v) (g := g) hv r, e => by
    rw [List.zip_cons_cons] at e ⊢
    by_cases q : f = h
    · subst q
      simp at e
      subst e
      exact ⟨v, by simp, hv⟩
    · have q' : (f == h) = false := by simpa using q
      simp only [List.lookup, q'] at e ⊢
      exact lookup_zip r e
section
variable {X : Cx} {e a b c : Expr} {es : List Expr} {ρ ρ1 : PEnv} {d d1 d2 d3 : D} {l la lb lc : Lv} {pos p p2 : Pos} {i j k : Int} {ns ms : List Int} {ds fs : List D} {kt : Nat} {x y z : Str} {st : Stmt} {sts : List Stmt} {P : PEnds} {g g1 : G} {q : List Nat} {r : Addr} {gs : List G}
/-! ### reading -/
/-- the whole tree, read -/
theorem je_tr (n : Nat) (hr : ρ[n]? = some (some (.tr l g))) (hq : erase g = d := by rfl) (hN : X.N[n]? = some x := by rfl) (hv : Vis X.env.scope x := by first | exact Or.inl rfl | exact Or.inr (Or.inl rfl) | exact Or.inr (Or.inr rfl)) (hd : (x == ("__debug__" : Str)) = false := by decide)
    (hcd : (x == ("__classdict__" : Str)) = false := by decide) : JE X .full (.Name x pos) ρ d :=
  JE.of (pe_var hN hv hd hcd) fun T σ Q F q => by
    obtain ⟨v, h1, h2⟩ := F.val n _ hr
    subst hq
    exact ⟨v, h1, q v T (Grow.refl F.ok) (h2.2.1.rp (F.ok.full (a := l)) fun _ _ => rfl)⟩
/-- where it stands -/
theorem je_trR (n : Nat) (hr : ρ[n]? = some (some (.tr l g))) (hq : root g = d := by rfl) (hN : X.N[n]? = some x := by rfl) (hv : Vis X.env.scope x := by first | exact Or.inl rfl | exact Or.inr (Or.inl rfl) | exact Or.inr (Or.inr rfl)) (hd : (x == ("__debug__" : Str)) = false := by decide)
    (hcd : (x == ("__classdict__" : Str)) = false := by decide) : JE X l (.Name x pos) ρ d :=
  JE.of (pe_var hN hv hd hcd) fun T σ Q F q => by
    obtain ⟨v, h1, h2⟩ := F.val n _ hr
    subst hq
    exact ⟨v, h1, q v T (Grow.refl F.ok) h2.2.1.root⟩
/-- where a field of a node stands -/
theorem je_trF (n : Nat) (q : List Nat) {C : Addr} {nf : List Str} {f : Str} (ha : JE X la a ρ (.ptr r)) (hr : ρ[n]? = some (some (.tr l g))) (hat : G.at q g = some (.ob r C nf gs)) (hl : (nf.zip gs).lookup f = some g1) (hc : Cls X.K C) (hn : NoAttr X.K C f) (hq : root g1 = d := by rfl)
    (hb : attributeBase a f X.env (eval a X.env) = eval a X.env := by rfl) : JE X l (.Attribute a f pos) ρ d :=
  JE.of (pe_fld pe_w hb) fun T σ Q F k => ha T σ _ F fun v T1 g1 r1 => by
    cases r1
    obtain ⟨w, h1, h2⟩ := (F.grow g1).val n _ hr
    obtain ⟨w', h3⟩ := h2.2.1.at q hat
    subst hq
    cases h3 with
    | ob hh hlen rr =>
      obtain ⟨u, l1, l2⟩ := lookup_zip rr hl
      exact ⟨r, C, _, _, u, rfl, hh, hc, hn, l1, k u T1 g1 l2.root⟩
/-- a node read: a list of the places its items stand at -/
theorem je_view (n : Nat) (q : List Nat) (ha : JE X la a ρ (.ptr r)) (hr : ρ[n]? = some (some (.tr l g))) (hat : G.at q g = some (.ls r gs)) (hq : gs.map root = ds := by rfl) : JE X .full a ρ (.lst ds) := fun T σ Q F k => ha T σ Q F fun v T1 g1 r1 => by
  cases r1
  obtain ⟨w, h1, h2⟩ := (F.grow g1).val n _ hr
  obtain ⟨w', h3⟩ := h2.2.1.at q hat
  subst hq
  cases h3 with
  | ls hh rr => exact k _ T1 g1 (.lst hh (rr.roots.mono (g1.ok.full (a := l))))
/-- a node read as it is -/
theorem je_deep (n : Nat) (q : List Nat) {y : G} (ha : JE X la a ρ (.ptr r)) (hr : ρ[n]? = some (some (.tr l g))) (hat : G.at q g = some y) (hy : root y = .ptr r) (hn : ∀ d, y ≠ .d d := by intro _ h; cases h) (hq : erase y = d := by rfl) : JE X .full a ρ d := fun T σ Q F k => ha T σ Q F fun v T1 g1 r1 => by
  cases r1
  obtain ⟨w, h1, h2⟩ := (F.grow g1).val n _ hr
  obtain ⟨w', h3⟩ := h2.2.1.at q hat
  subst hq
  have e : w' = .ref r := by
    cases h3 with
    | d _ => exact absurd rfl (hn _)
    | li _ => cases hy; rfl
    | ls _ _ => cases hy; rfl
    | ob _ _ _ => cases hy; rfl
  rw [e] at h3
  exact k _ T1 g1 (h3.rp (g1.ok.full (a := l)) fun _ _ => rfl)
/-! ### changes -/
theorem js_appPI (n : Nat) (q : List Nat) {apos cpos : Pos} (ha : JE X la a ρ (.ptr r)) (hr : ρ[n]? = some (some (.tr l g))) (hat : G.at q g = some (.li r ns)) (he : JE X lb e ρ (.int i)) (h : P.nx (ρ.set n (some (.tr l (G.put q (.li r (ns ++ [i])) g))))) (hz : ns.length < 100000)
    (hbm : ∀ (to : TE) (ta : TA), PE X a to → PA X [e] ta → PE X (.Call (.Attribute a "append" apos) [e] [] cpos) (tBM X.K "list" rAppend to ta) := by
      exact fun to ta ho hx => pe_bm PySem.F.plainAttrs_list PySem.F.slot_list_append PySem.F.type_list_append mt_append ho hx)
    (hst : starEach [e] X.env = (false, eval e X.env) :: starEach [] X.env := by exact star_c rfl) (hs : swapsWith (.Call (.Attribute a "append" apos) [e] [] cpos) none pos.line X.env = pure false := by exact sw_ns rfl) :
    JS X (.Expr (.Call (.Attribute a "append" apos) [e] [] cpos) pos) P ρ :=
  JS.of (ps_expr (hbm _ _ pe_w (pa_cons pe_w pa_nil hst)) hs) fun T σ D F m => ha T σ _ F fun v T1 g1 r1 => by
    cases r1
    obtain ⟨w, h1, h2⟩ := (F.grow g1).val n _ hr
    obtain ⟨w', h3⟩ := h2.2.1.at q hat
    cases h3 with
    | li hh =>
    refine ⟨.inl ⟨rfl, _, SqL.of hh⟩, he T1 σ _ (F.grow g1) fun w T2 g2 r2 => ?_⟩
    cases r2
    have g := g1.trans g2
    have hh2 := g2.ex _ _ hh
    have hi := g2.fi r (h2.2.2.1 r (at_adds q hat (by rw [adds]; exact List.mem_cons_self ..))) (by rw [hh]; intro z; cases z)
    refine ⟨r, _, _, rfl, rfl, hh2, by rw [List.length_map]; exact small_lt hz, ?_⟩
    exact m.nx _ σ (T2.put r _) (g.w.trans (Gw.put g.ok hi)) ((F.grow g).putT (x := .li r (ns ++ [i])) hr hat (by rw [adds]; exact List.mem_cons_self ..) rfl fun w hw => by
      cases hw with
      | li _ => exact .li (by rw [upd_same, List.map_append]; rfl)) h
theorem js_appPD (n : Nat) (q : List Nat) {apos cpos : Pos} (ha : JE X la a ρ (.ptr r)) (hr : ρ[n]? = some (some (.tr l g))) (hat : G.at q g = some (.ls r gs)) (he : JE X lb e ρ d) (h : P.nx (ρ.set n (some (.tr l (G.put q (.ls r (gs ++ [.d d])) g))))) (hz : gs.length < 100000) (hle : Lv.le lb l = true := by rfl)
    (hbm : ∀ (to : TE) (ta : TA), PE X a to → PA X [e] ta → PE X (.Call (.Attribute a "append" apos) [e] [] cpos) (tBM X.K "list" rAppend to ta) := by
      exact fun to ta ho hx => pe_bm PySem.F.plainAttrs_list PySem.F.slot_list_append PySem.F.type_list_append mt_append ho hx)
    (hst : starEach [e] X.env = (false, eval e X.env) :: starEach [] X.env := by exact star_c rfl) (hs : swapsWith (.Call (.Attribute a "append" apos) [e] [] cpos) none pos.line X.env = pure false := by exact sw_ns rfl) :
    JS X (.Expr (.Call (.Attribute a "append" apos) [e] [] cpos) pos) P ρ :=
  JS.of (ps_expr (hbm _ _ pe_w (pa_cons pe_w pa_nil hst)) hs) fun T σ D F m => ha T σ _ F fun v T1 g1 r1 => by
    cases r1
    obtain ⟨w, h1, h2⟩ := (F.grow g1).val n _ hr
    obtain ⟨w', h3⟩ := h2.2.1.at q hat
    have hnl : l ≠ .full := h2.1
    cases h3 with
    | @ls _ _ vs hh rr =>
    refine ⟨.inl ⟨rfl, _, SqL.of hh⟩, he T1 σ _ (F.grow g1) fun w T2 g2 r2 => ?_⟩
    have g := g1.trans g2
    have hh2 := g2.ex _ _ hh
    have mr : r ∈ adds (.ls r gs) := by rw [adds]; exact List.mem_cons_self ..
    have hi := g2.fi r (h2.2.2.1 r (at_adds q hat mr)) (by rw [hh]; intro z; cases z)
    refine ⟨r, _, _, rfl, rfl, hh2, by rw [rr.length]; exact small_lt hz, ?_⟩
    have ea : adds (.ls r (gs ++ [.d d])) = adds (.ls r gs) := by rw [adds, adds, addss_append, addss, adds, addss, List.append_nil, List.append_nil]
    obtain ⟨w2, k1, k2⟩ := (F.grow g).val n _ hr
    have nd2 := k2.2.2.2
    refine m.nx _ σ (T2.put r _) (g.w.trans (Gw.put g.ok hi)) ((F.grow g).putT hr hat mr ea fun w' hw => ?_) h
    cases hw with
    | @ls _ _ vs' hh' rr' =>
      rw [hh2] at hh'
      cases hh'
      refine .ls upd_same (AtGs.append (rr'.off fun z => ?_) (.cons (.d (r2.mono (g2.ok.le hle))) .nil))
      have : (adds (.ls r gs)).Nodup := by
        have key : ∀ (p : List Nat) {g y : G}, G.at p g = some y → (adds g).Nodup → (adds y).Nodup := by
          intro p
          induction p with
          | nil => intro g y e nd; cases e; exact nd
          | cons i p ih =>
            intro g y e nd
            cases g with
            | d _ => cases e
            | li _ _ => cases e
            | ls c gs =>
              cases q : gs[i]? with
              | none => simp [G.at, q] at e
              | some g1 =>
                simp only [G.at, q] at e
                rw [adds] at nd
                exact ih e (nodup_get q (List.nodup_cons.mp nd).2)
            | ob c C fs gs =>
              cases q : gs[i]? with
              | none => simp [G.at, q] at e
              | some g1 =>
                simp only [G.at, q] at e
                rw [adds] at nd
                exact ih e (nodup_get q (List.nodup_cons.mp nd).2)
        exact key q hat nd2
      rw [adds] at this
      exact (List.nodup_cons.mp this).1 z
theorem js_popPI (n : Nat) (q : List Nat) {apos cpos : Pos} (ha : JE X la a ρ (.ptr r)) (hr : ρ[n]? = some (some (.tr l g))) (hat : G.at q g = some (.li r ns)) (h : P.nx (ρ.set n (some (.tr l (G.put q (.li r ns.dropLast) g))))) (hz : 0 < ns.length)
    (hbm : ∀ (to : TE), PE X a to → PE X (.Call (.Attribute a "pop" apos) [] [] cpos) (tBM0 X.K "list" rPop to) := by
      exact fun to ho => pe_bm0 PySem.F.plainAttrs_list PySem.F.slot_list_pop PySem.F.type_list_pop mt_pop ho)
    (hs : swapsWith (.Call (.Attribute a "pop" apos) [] [] cpos) none pos.line X.env = pure false := by exact sw_ns rfl) :
    JS X (.Expr (.Call (.Attribute a "pop" apos) [] [] cpos) pos) P ρ :=
  JS.of (ps_expr (hbm _ pe_w) hs) fun T σ D F m => ha T σ _ F fun v T1 g1 r1 => by
    cases r1
    obtain ⟨w, h1, h2⟩ := (F.grow g1).val n _ hr
    obtain ⟨w', h3⟩ := h2.2.1.at q hat
    cases h3 with
    | li hh =>
    refine ⟨.inl ⟨rfl, _, SqL.of hh⟩, r, _, .int (ns[ns.length - 1]'(by omega)), rfl, rfl, hh, ?_, ?_⟩
    · rw [List.length_map, List.getElem?_map, List.getElem?_eq_getElem (by omega)]
      rfl
    · have mr : r ∈ adds (.li r ns) := by rw [adds]; exact List.mem_cons_self ..
      have hi := h2.2.2.1 r (at_adds q hat mr)
      exact m.nx _ σ (T1.put r _) (g1.w.trans (Gw.put g1.ok hi)) ((F.grow g1).putT (x := .li r ns.dropLast) hr hat mr rfl fun w hw => by
        cases hw with
        | li _ => exact .li (by rw [upd_same, List.map_dropLast])) h
theorem js_setPI (n : Nat) (q : List Nat) {pt : Pos} (ha : JE X la a ρ (.ptr r)) (hr : ρ[n]? = some (some (.tr l g))) (hat : G.at q g = some (.li r ns)) (he : JE X lc e ρ (.int k)) (hb : JE X lb b ρ (.int i)) (hin : inR ns.length i) (h : P.nx (ρ.set n (some (.tr l (G.put q (.li r (setI ns i k)) g)))))
    (hgs : ∀ (to ti : TE), PE X a to → PE X b ti → PG X (.Subscript a b pt) (gSub to ti rSetL) := by exact fun to ti h1 h2 => pg_sub h1 h2 set_list)
    (hs : swapsWithSole [.Subscript a b pt] e pos.line X.env = pure false := by exact sws_ns rfl) (hw : swappedStores [.Subscript a b pt] e X.env = pure none := by exact ss_sub)
    (h1 : (assignEach [.Subscript a b pt] X.env).map (·.2) = [assign (.Subscript a b pt) X.env] := by rfl) : JS X (.Assign [.Subscript a b pt] e pos) P ρ :=
  JS.of (ps_asg pe_w (hgs _ _ pe_w pe_w) hs hw h1) fun T σ D F m => he T σ _ F fun w T1 g1 r1 => by
    cases r1
    refine ha T1 σ _ (F.grow g1) fun v T2 g2 r2 => ?_
    cases r2
    refine hb T2 σ _ (F.grow (g1.trans g2)) fun u T3 g3 r3 => ?_
    cases r3
    have g := (g1.trans g2).trans g3
    obtain ⟨w, h1, h2⟩ := (F.grow g).val n _ hr
    obtain ⟨w', h3⟩ := h2.2.1.at q hat
    cases h3 with
    | li hh =>
    have mr : r ∈ adds (.li r ns) := by rw [adds]; exact List.mem_cons_self ..
    have hi := h2.2.2.1 r (at_adds q hat mr)
    obtain ⟨j, hj, ej, qj⟩ := ixN_some hin
    refine ⟨r, _, i, j, rfl, rfl, hh, by rw [List.length_map]; exact ej, ?_⟩
    have es : (ns.map V.int).set j (V.int k) = (setI ns i k).map V.int := by
      unfold setI
      rcases qj with ⟨h0, rfl⟩ | ⟨h0, rfl⟩
      · rw [if_pos h0, List.map_set]
      · rw [if_neg (by omega), List.map_set]
    rw [es]
    exact m.nx _ σ (T3.put r _) (g.w.trans (Gw.put g.ok hi)) ((F.grow g).putT (x := .li r (setI ns i k)) hr hat mr rfl fun w hw => by
      cases hw with
      | li _ => exact .li upd_same) h

/-! ### displays of new trees -/
def JAU (X : Cx) (l : Lv) (es : List Expr) (ρ : PEnv) (ds : List D) : Prop :=
  ∀ (T : W3) (σ : L2.St) (Q : List V → Hp → Prop), Fr X.K T σ ρ → (∀ vs gs T', Grow T T' → erases gs = ds → AtGs X.K (T'.at l) T'.h vs gs → (∀ b, b ∈ addss gs → T.h b = none ∧ T'.i b = none) → (addss gs).Nodup → okGs gs = true → Q vs T'.h) → wA X es σ T.h Q
theorem jau_nil : JAU X l [] ρ [] := fun T σ Q F q pos pins s I => pa_nil.run pos pins s σ T.h Q I (q [] [] T (Grow.refl F.ok) rfl .nil (fun b m => by rw [addss] at m; cases m) (by rw [addss]; exact List.nodup_nil) rfl)
theorem jau_cons (h : JU X l e ρ d) (hr : JAU X l es ρ ds) (hs : starEach (e :: es) X.env = (false, eval e X.env) :: starEach es X.env := by exact star_c rfl) : JAU X l (e :: es) ρ (d :: ds) :=
  fun T σ Q F q pos pins s I => (pa_cons pe_w pa_w hs).run pos pins s σ T.h Q I (h T σ _ F fun v g T1 g1 e1 r1 m1 nd1 => hr T1 σ _ (F.grow g1) fun vs gs T2 g2 e2 r2 m2 nd2 ok2 =>
    q _ (g :: gs) T2 (g1.trans g2) (by rw [erases, e1, e2]) (.cons (r1.mono (g2.at l) g2.ex) r2) (fun b m => by
      rw [addss] at m
      rcases List.mem_append.mp m with m | m
      · exact ⟨(m1 b m).1, g2.fi b (m1 b m).2 (r1.dom b m)⟩
      · exact ⟨Same.free g1.ex (m2 b m).1, (m2 b m).2⟩) (by
      rw [addss]
      exact List.nodup_append.mpr ⟨nd1.nd, nd2, fun a ma b mb e => by subst e; exact r1.dom a ma (m2 a mb).1⟩) (by rw [okGs, nd1.ok, ok2]; rfl))
/-- a display of new trees and of constants -/
theorem jau_conD (h : JE X .frs e ρ d) (hr : JAU X .frs es ρ ds) (hl : leafD d = true := by rfl) (hs : starEach (e :: es) X.env = (false, eval e X.env) :: starEach es X.env := by exact star_c rfl) : JAU X .frs (e :: es) ρ (d :: ds) :=
  fun T σ Q F q pos pins s I => (pa_cons pe_w pa_w hs).run pos pins s σ T.h Q I (h T σ _ F fun v T1 g1 r1 => hr T1 σ _ (F.grow g1) fun vs gs T2 g2 e2 r2 m2 nd2 ok2 =>
    q _ (.d d :: gs) T2 (g1.trans g2) (by rw [erases, erase, e2]) (.cons (.d (r1.mono (g2.at .frs))) r2) (fun b m => by
      rw [addss, adds, List.nil_append] at m
      exact ⟨Same.free g1.ex (m2 b m).1, (m2 b m).2⟩) (by
      rw [addss, adds, List.nil_append]
      exact nd2) (by rw [okGs, okG, hl, ok2]; rfl))
theorem ju_lst (h : JAU X l es ρ ds) (hz : ds.length ≤ 100000 := by first | decide | exact of_decide_eq_true rfl) (z : Lv.le l .imm = true := by rfl) : JU X l (.List es pos) ρ (.lst ds) :=
  fun T σ Q F q pins s I => (pe_lst pa_w).run pins s σ T.h Q I (h T σ _ F fun vs gs T1 g1 e1 r1 m1 nd1 ok1 => ⟨by rw [r1.length, ← erases_length, e1]; exact small_of hz, fun p hp => by
    have np : p ∉ addss gs := fun m => r1.dom p m hp
    have r2 := r1.off (o := .lst vs) np
    have r2' : AtGs X.K ((T1.put p (.lst vs)).at l) (upd T1.h p (.lst vs)) vs gs := by
      cases l with
      | full => cases z
      | imm => exact r2
      | frs => exact r2
    exact q _ (.ls p gs) (T1.put p _) (g1.trans (Grow.put g1.ok hp)) (by rw [erase, e1]) (.ls upd_same r2') (fun b m => by
      rw [adds] at m
      rcases List.mem_cons.mp m with rfl | m
      · exact ⟨Same.free g1.ex hp, g1.ok.i_none hp⟩
      · exact m1 b m) ⟨by rw [adds]; exact List.nodup_cons.mpr ⟨np, nd1⟩, by rw [okG]; exact ok1⟩⟩)

/-! ### comprehensions of new trees -/
theorem lcU_run {own : List Nat} {tt : TT} {te : TE} {gg : TG} {wi : TI} {l' : Lv} {Tst : D → Bool} {f : D → D} {ρd : D → PEnv} (hl' : Lv.le l' .imm = true)
    (hi : ∀ (T : W3) (σ : L2.St) (R : It → Hp → Prop), Fr X.K T σ ρ → (∀ J T', Grow T T' → Walks X.K T' J l ds → R J T'.h) → wi σ T.h R)
    (hg : ∀ d, d ∈ ds → ∀ (T : W3) (σ : L2.St) (v : V) (Q : L2.St → Hp → Prop), Fr X.K T σ (wipeL ρ own) → Rp X.K (T.at l) v d → (∀ σ', L2.wipe σ' own = L2.wipe σ own → Fr X.K T σ' (ρd d) → Q σ' T.h) → gg v σ T.h Q)
    (ht : ∀ d, d ∈ ds → ∀ (T : W3) (σ : L2.St) (Q : Bool → Hp → Prop), Fr X.K T σ (ρd d) → (∀ T', Grow T T' → Q (Tst d) T'.h) → tt σ T.h Q)
    (he : ∀ d, d ∈ ds → Tst d = true → ∀ (T : W3) (σ : L2.St) (Q : VK), Fr X.K T σ (ρd d) → (∀ v g T', Grow T T' → erase g = f d → AtG X.K (T'.at l') T'.h v g → (∀ b, b ∈ adds g → T.h b = none ∧ T'.i b = none) → Nd g → Q v T'.h) → te σ T.h Q)
    (hz : ds.length ≤ 100000) (T : W3) (σ : L2.St) (Q : VK) (F : Fr X.K T σ ρ)
    (q : ∀ v g T', Grow T T' → erase g = .lst ((ds.filter Tst).map f) → AtG X.K (T'.at l') T'.h v g → (∀ b, b ∈ adds g → T.h b = none ∧ T'.i b = none) → Nd g → Q v T'.h) : tLc wi gg tt te own σ T.h Q := by
  refine hi T σ _ F fun J T1 g1 W => ?_
  intro D0 hD
  have F1 := (F.grow g1)
  have hww : L2.wipe (L2.wipe σ own) own = L2.wipe σ own := by
    have key : ∀ (own : List Nat) (σ : L2.St) (n : Nat), L2.wipe (σ.set n none) own = (L2.wipe σ own).set n none := by
      intro own
      induction own with
      | nil => intro σ n; rfl
      | cons v r ih =>
        intro σ n
        show (L2.wipe (σ.set n none) r).set v none = ((L2.wipe σ r).set v none).set n none
        rw [ih]
        by_cases e : n = v
        · subst e; rfl
        · rw [List.set_comm _ _ e]
    have key2 : ∀ (own : List Nat) (σ : L2.St), L2.wipe (L2.wipe σ own) own = L2.wipe σ own := by
      intro own
      induction own with
      | nil => intro σ; rfl
      | cons v r ih =>
        intro σ
        show (L2.wipe ((L2.wipe σ r).set v none) r).set v none = (L2.wipe σ r).set v none
        rw [key, ih, List.set_set]
    exact key2 own σ
  refine ⟨fun i m H => m = ds.length - i ∧ i ≤ ds.length ∧ ∃ T2 vs gs, T2.h = H ∧ Gs T1 T2 ∧ Same T1.h T2.h ∧ Fr X.K T2 σ ρ ∧ T2.i D0 = none ∧ T2.h D0 = some (.lst vs) ∧ erases gs = ((ds.take i).filter Tst).map f ∧ AtGs X.K (T2.at l') T2.h vs gs ∧
      (∀ b, b ∈ addss gs → T1.h b = none ∧ T2.i b = none) ∧ (D0 :: addss gs).Nodup ∧ okGs gs = true,
    ⟨ds.length, by simp, Nat.zero_le _, T1.put D0 (.lst []), [], [], rfl, (Grow.put g1.ok hD).s, same_new hD, F1.put (g1.ok.i_none hD) (F1.fresh hD), g1.ok.i_none hD, upd_same, rfl, .nil, (fun b m => by rw [addss] at m; cases m), by rw [addss]; exact List.nodup_cons.mpr ⟨List.not_mem_nil, List.nodup_nil⟩, rfl⟩, ?_⟩
  rintro i m H2 ⟨rfl, hle, T2, vs, gs, rfl, gw, sh, F2, hDi, hDh, eg, rr, fr, nd, ok⟩
  obtain ⟨w1, w2⟩ := W T2 i gw.xi gw.xn gw.ok
  have hD2 : T.h D0 = none := Same.free g1.ex hD
  cases e : ds[i]? with
  | none =>
    refine .inl ⟨w2 e, ?_⟩
    rw [List.take_of_length_le (List.getElem?_eq_none_iff.mp e)] at eg
    refine q (.ref D0) (.ls D0 gs) T2 ⟨gw.ok, g1.ex.trans sh, g1.xi.trans gw.xi, g1.xn.trans gw.xn, fun a h1 h2 => gw.fi a (g1.fi a h1 h2) (Same.some g1.ex h2), fun a h1 h2 => gw.fn a (g1.fn a h1 h2) (Same.some g1.ex h2)⟩ (by rw [erase, eg]) (.ls hDh rr) (fun b mb => ?_) ⟨by rw [adds]; exact nd, by rw [okG]; exact ok⟩
    rw [adds] at mb
    rcases List.mem_cons.mp mb with rfl | mb
    · exact ⟨hD2, hDi⟩
    · exact ⟨Same.free g1.ex (fr b mb).1, (fr b mb).2⟩
  | some d =>
    obtain ⟨go, yld⟩ := w1 d e
    have hlt := (List.getElem?_eq_some_iff.mp e).1
    have hmem : d ∈ ds := List.mem_of_getElem? e
    have htake : ds.take (i + 1) = ds.take i ++ [d] := by rw [List.take_add_one, e]; rfl
    refine .inr ⟨go, fun H3 => ∃ T3 vs3 gs3, T3.h = H3 ∧ Gs T1 T3 ∧ Same T1.h T3.h ∧ Fr X.K T3 σ ρ ∧ T3.i D0 = none ∧ T3.h D0 = some (.lst vs3) ∧ erases gs3 = ((ds.take (i + 1)).filter Tst).map f ∧ AtGs X.K (T3.at l') T3.h vs3 gs3 ∧
        (∀ b, b ∈ addss gs3 → T1.h b = none ∧ T3.i b = none) ∧ (D0 :: addss gs3).Nodup ∧ okGs gs3 = true,
      fun H3 ⟨T3, vs3, gs3, h⟩ => ⟨ds.length - (i + 1), by omega, rfl, by omega, T3, vs3, gs3, h⟩, fun x H' yv => ?_⟩
    obtain ⟨T3, rfl, g3, r3⟩ := yld x H' yv
    have F3 := F2.grow g3
    refine hg d hmem T3 (L2.wipe σ own) x _ (F3.wipeL own) r3 fun σ4 hw F4 => ⟨by rw [hw, hww], ?_⟩
    refine ht d hmem T3 σ4 _ F4 fun T5 g5 => ?_
    have g35 := g3.trans g5
    cases ev : Tst d with
    | false =>
      refine iteF ⟨T5, vs, gs, rfl, gw.trans g35.s, sh.trans g35.ex, F2.grow g35, g35.fi D0 hDi (by rw [hDh]; intro z; cases z), g35.ex _ _ hDh, ?_, rr.mono (g35.at l') g35.ex, fun b mb => ⟨(fr b mb).1, g35.fi b (fr b mb).2 (rr.dom b mb)⟩, nd, ok⟩
      rw [htake, List.filter_append, List.filter_cons_of_neg (by rw [ev]; exact Bool.false_ne_true), List.filter_nil, List.append_nil]
      exact eg
    | true =>
      refine iteT (he d hmem ev T5 σ4 _ (F4.grow g5) fun v g6' T6 g6 e6 r6 m6 nd6 => ?_)
      have g36 := g35.trans g6
      have hDi6 := g36.fi D0 hDi (by rw [hDh]; intro z; cases z)
      have hDh6 := g36.ex _ _ hDh
      have hD5 : T5.h D0 ≠ none := by rw [g35.ex _ _ hDh]; intro z; cases z
      have nD6 : D0 ∉ adds g6' := fun mb => hD5 (m6 D0 mb).1
      have nz : gs.length ≤ i := by
        rw [← erases_length, eg, List.length_map]
        exact Nat.le_trans (List.length_filter_le _ _) (by rw [List.length_take]; omega)
      have n2 := List.nodup_cons.mp nd
      have rr6 := rr.mono (g36.at l') g36.ex
      refine ⟨vs, hDh6, by rw [rr.length]; exact small_lt (by omega), T6.put D0 (.lst (vs ++ [v])), vs ++ [v], gs ++ [g6'], rfl, (gw.trans g36.s).trans (Gs.put g36.ok hDi6), ?_, ?_, hDi6, upd_same, ?_, ?_, fun b mb => ?_, ?_, ?_⟩
      · exact same_into (sh.trans g36.ex) hD
      · exact (F2.grow g36).put hDi6 (F1.fresh hD)
      · rw [htake, List.filter_append, List.filter_cons_of_pos ev, List.filter_nil, List.map_append, erases_append, eg, erases, e6, erases]
        rfl
      · have z := AtGs.append (rr6.off (o := .lst (vs ++ [v])) n2.1) (.cons (r6.off (o := .lst (vs ++ [v])) nD6) .nil)
        cases l' with
        | full => cases hl'
        | imm => exact z
        | frs => exact z
      · rw [addss_append, addss, addss, List.append_nil] at mb
        rcases List.mem_append.mp mb with mb | mb
        · exact ⟨(fr b mb).1, g36.fi b (fr b mb).2 (rr.dom b mb)⟩
        · exact ⟨Same.free (sh.trans g35.ex) (m6 b mb).1, (m6 b mb).2⟩
      · rw [addss_append, addss, addss, List.append_nil]
        refine List.nodup_cons.mpr ⟨fun mb => ?_, List.nodup_append.mpr ⟨n2.2, nd6.nd, fun a ma b mb e => ?_⟩⟩
        · rcases List.mem_append.mp mb with mb | mb
          · exact n2.1 mb
          · exact nD6 mb
        · subst e
          exact (rr.mono (Same.refl _) g35.ex).dom a ma (m6 a mb).1
      · have key : ∀ (xs ys : List G), okGs xs = true → okGs ys = true → okGs (xs ++ ys) = true := by
          intro xs
          induction xs with
          | nil => intro ys _ h; exact h
          | cons a r ih =>
            intro ys h1 h2
            rw [okGs, Bool.and_eq_true] at h1
            rw [List.cons_append, okGs, h1.1, ih ys h1.2 h2]
            rfl
        exact key _ _ ok (by rw [okGs, nd6.ok]; rfl)
variable {scope : Scope} {elt tg iter : Expr} {ifs : List Expr}
theorem ju_lc {own : List (Str × Nat)} {l' : Lv} {Tst : D → Bool} {f : D → D} {ρd : D → PEnv} (hi : JI X tg iter l ρ ds)
    (hg : ∀ d, d ∈ ds → ∀ s H C cl fp, JGb (Blk X s H scope C cl fp) tg l d (own.map (·.2)) (wipeL ρ (own.map (·.2))) (ρd d))
    (ht : ∀ d, d ∈ ds → ∀ s H C cl fp, JTs (Blk X s H scope C cl fp) ifs (ρd d) (Tst d))
    (he : ∀ d, d ∈ ds → Tst d = true → ∀ s H C cl fp, JU (Blk X s H scope C cl fp) l' elt (ρd d) (f d)) (hN : X.N.Nodup) (ok : BlkOk X.N X.env.scope scope own) (hz : ds.length ≤ 100000) (hl' : Lv.le l' .imm = true := by rfl) (hc : X.calm = true := by rfl)
    (hs : ∀ x, foldedSetIterable iter X.env x = pure x := by exact fs_ns rfl) : JU X l' (.ListComp elt [⟨tg, iter, ifs, 0⟩] scope pos) ρ (.lst ((ds.filter Tst).map f)) :=
  fun T σ Q F q pins s I => (pe_lc (own := own) (g := fun v σ H Q => ∀ s H0 C cl fp, wG (Blk X s H0 scope C cl fp) tg v σ H Q) (tt := fun σ H Q => ∀ s H0 C cl fp, wTs (Blk X s H0 scope C cl fp) ifs σ H Q) (te := fun σ H Q => ∀ s H0 C cl fp, wE (Blk X s H0 scope C cl fp) elt σ H Q) hc hN pi_w ok
      (fun s H C cl fp => ⟨fun pins s' σ H' v u Q I r h => h s H C cl fp pins s' u I r⟩) (fun s H C cl fp => ⟨fun pins s' σ H' Q I h => h s H C cl fp pins s' I⟩) (fun s H C cl fp => ⟨fun pins s' σ H' Q I h => h s H C cl fp pins s' I⟩) hs).run pins s σ T.h Q I
    (lcU_run hl' hi (fun d hd T σ v Q F r q s H C cl fp => hg d hd s H C cl fp T σ v Q F r q) (fun d hd T σ Q F q s H C cl fp => ht d hd s H C cl fp T σ Q F q) (fun d hd ht' T σ Q F q s H C cl fp => he d hd ht' s H C cl fp T σ Q F q) hz T σ Q F q)
end
end Lf

set_option Elab.async false
set_option linter.all false
set_option maxRecDepth 100000
set_option maxHeartbeats 2000000
set_option autoImplicit false
namespace Lf
open PySem L2
/-- a comprehension bound to a name that is no plain local -/
theorem sw_lc {elt : Expr} {gens : List Comprehension} {scope : Scope} {pos : Pos} {t : Str} {p : Pos} {n : Nat} {env : Env} (h : (env.kindOf t == some .local) = false) : swapsWith (.ListComp elt gens scope pos) (some (.Name t p)) n env = pure false := by
  show (pure (env.blockKind == .function && env.kindOf t == some .local && p.line == pos.line && !(scope.names.any fun (x : Str × NameKind) => x.1 == t && (x.2 == .local || x.2 == .cell))) : Sem Bool) = pure false
  rw [h, Bool.and_false, Bool.false_and, Bool.false_and]
/-! ### own things as values that stay, while nothing changes -/
def frzE : Option E → Option E
  | some (.ownI ns) => some (.v .imm (.il ns))
  | some (.own _ ds) => some (.v .imm (.lst ds))
  | some (.tr _ g) => some (.v .imm (erase g))
  | some (.v l d) => some (.v l d)
  | _ => none
theorem frzE_v {o : Option E} {e : E} (h : frzE o = some e) : ∃ l d, e = .v l d := by
  unfold frzE at h
  split at h <;> first | (cases h; exact ⟨_, _, rfl⟩) | cases h
theorem Fr.frz {K : PySem.W.Frag} {T : W3} {σ : L2.St} {ρ : PEnv} (F : Fr K T σ ρ) : Fr K ⟨T.h, T.n, T.h⟩ σ (ρ.map frzE) := by
  have get : ∀ {i : Nat} {e : E}, (ρ.map frzE)[i]? = some (some e) → ∃ o, ρ[i]? = some o ∧ frzE o = some e := fun {i e} h => by
    rw [List.getElem?_map] at h
    cases q : ρ[i]? with
    | none => rw [q] at h; cases h
    | some o => rw [q] at h; exact ⟨o, rfl, Option.some.inj h⟩
  have nv : ∀ {i : Nat} {e : E}, (ρ.map frzE)[i]? = some (some e) → ∃ l d, e = .v l d := fun {i e} h => by
    obtain ⟨o, _, h2⟩ := get h
    exact frzE_v h2
  refine ⟨⟨F.ok.ni.trans F.ok.ih, Same.refl _⟩, by rw [List.length_map]; exact F.len, fun i e h => ?_, fun i j e e' a h1 h2 o1 => ?_, fun i j e e' a h1 h2 m1 => ?_, fun i j e e' a h1 h2 m1 => ?_⟩
  · obtain ⟨o, h1, h2⟩ := get h
    cases o with
    | none => cases h2
    | some e0 =>
      obtain ⟨v, h3, h4⟩ := F.val i e0 h1
      refine ⟨v, h3, ?_⟩
      cases e0 with
      | v l d =>
        cases h2
        refine ⟨h4.1, ?_⟩
        cases l with
        | full => exact absurd rfl h4.1
        | imm => exact h4.2.mono F.ok.ih
        | frs => exact h4.2
      | ownI ns =>
        cases h2
        obtain ⟨a, rfl, h5, _⟩ := h4
        exact ⟨by decide, .il h5⟩
      | own l ds =>
        cases h2
        obtain ⟨_, a, vs, rfl, h5, _, r⟩ := h4
        exact ⟨by decide, .lst h5 (r.mono F.ok.full)⟩
      | tr l g =>
        cases h2
        exact ⟨by decide, h4.2.1.rp (F.ok.full (a := l)) fun _ _ => rfl⟩
      | dI _ _ => cases h2
      | dT _ _ => cases h2
      | dF _ _ _ _ _ => cases h2
  · obtain ⟨l, d, rfl⟩ := nv h1
    cases o1
  · obtain ⟨l, d, rfl⟩ := nv h1
    cases m1
  · obtain ⟨l, d, rfl⟩ := nv h1
    cases m1
section
variable {X : Cx} {e a b c : Expr} {es : List Expr} {ρ ρ1 : PEnv} {d d1 d2 d3 : D} {l la lb lc : Lv} {pos p p2 : Pos} {i j k : Int} {ns ms : List Int} {ds fs : List D} {kt : Nat} {x y z : Str} {st : Stmt} {sts : List Stmt} {P : PEnds}
theorem JE.frz (h : JE X .frs e ρ1 d) (hr : ρ1 = ρ.map frzE := by rfl) : JE X .frs e ρ d := fun T σ Q F q => by
  subst hr
  refine h ⟨T.h, T.n, T.h⟩ σ Q F.frz fun v T' g r => ?_
  have sn : Same T.i T'.h := F.ok.ih.trans g.ex
  have sm : Same T'.n T'.h := g.ok.ni.trans g.ok.ih
  have fr : ∀ a, T.i a = none → T.h a ≠ none → T'.n a = none := fun a h1 h2 => g.fn a (F.ok.n_none' h1) h2
  refine q v ⟨uni T.i T'.n, T'.n, T'.h⟩ ⟨⟨uni_rc sn sm, uni_to sn sm⟩, g.ex, uni_l, g.xn, fun a h1 h2 => ?_, fun a h1 h2 => g.fn a h1 h2⟩ r
  show uni T.i T'.n a = none
  rw [uni_right h1]
  exact fr a h1 h2
theorem JT.frz {v : Bool} (h : JT X e ρ1 v) (hr : ρ1 = ρ.map frzE := by rfl) : JT X e ρ v := fun T σ Q F q => by
  subst hr
  refine h ⟨T.h, T.n, T.h⟩ σ Q F.frz fun T' g => ?_
  have sn : Same T.i T'.h := F.ok.ih.trans g.ex
  have sm : Same T'.n T'.h := g.ok.ni.trans g.ok.ih
  refine q ⟨uni T.i T'.n, T'.n, T'.h⟩ ⟨⟨uni_rc sn sm, uni_to sn sm⟩, g.ex, uni_l, g.xn, fun a h1 h2 => ?_, fun a h1 h2 => g.fn a h1 h2⟩
  show uni T.i T'.n a = none
  rw [uni_right h1]
  exact g.fn a (F.ok.n_none' h1) h2
/-! ### list(range(..)) -/
theorem rgV_rngI (lo hi : Int) : rgV lo hi = (rngI lo (hi - lo).toNat).map V.int := by
  unfold rgV rngI
  rw [List.map_map]
  rfl
theorem joi_listRg {p1 p2 : Pos} (hm : X.mg "list" = none) (hm2 : X.mg "range" = none) (ha : JE X la a ρ (.int i)) (hz : 0 ≤ i ∧ i ≤ 100000) (hc : X.calm = true := by rfl) (hg : Gl X "list" := by rfl) (hg2 : Gl X "range" := by rfl)
    (n1 : starEach [a] X.env = (false, eval a X.env) :: starEach [] X.env := by exact star_c rfl) : JOI X (.Call (.Name "list" p) [.Call (.Name "range" p1) [a] [] p2] [] pos) ρ (rngI 0 i.toNat) :=
  JOI.of (pe_listRg hc hg hm (prg_1 hg2 hm2 pe_w n1) (star_c rfl)) fun T σ Q F q => ha T σ _ F fun v T1 g1 r1 => by
    cases r1
    refine ⟨i, rfl, RgOk.of_le (by omega) (by omega) (by omega) (by omega), fun r hr => ?_⟩
    rw [rgV_rngI, Int.sub_zero]
    exact q r (T1.put r _) (g1.trans (Grow.put g1.ok hr)) (Same.free g1.ex hr) (g1.ok.i_none hr) upd_same
theorem joi_listRg2 {p1 p2 : Pos} (hm : X.mg "list" = none) (hm2 : X.mg "range" = none) (ha : JE X la a ρ (.int i)) (hb : JE X lb b ρ (.int j)) (hz : 0 ≤ i ∧ i ≤ 100000 ∧ 0 ≤ j ∧ j ≤ 100000) (hc : X.calm = true := by rfl) (hg : Gl X "list" := by rfl) (hg2 : Gl X "range" := by rfl)
    (n1 : starEach [a, b] X.env = (false, eval a X.env) :: starEach [b] X.env := by exact star_c rfl) (n2 : starEach [b] X.env = (false, eval b X.env) :: starEach [] X.env := by exact star_c rfl) (hp : (backTo p2 (starEach [b] X.env)).any (·.1) = false := by exact back_ns rfl) :
    JOI X (.Call (.Name "list" p) [.Call (.Name "range" p1) [a, b] [] p2] [] pos) ρ (rngI i (j - i).toNat) :=
  JOI.of (pe_listRg hc hg hm (prg_2 hg2 hm2 pe_w pe_w n1 n2 hp) (star_c rfl)) fun T σ Q F q => ha T σ _ F fun v T1 g1 r1 => by
    cases r1
    refine hb T1 σ _ (F.grow g1) fun u T2 g2 r2 => ?_
    cases r2
    have g := g1.trans g2
    refine ⟨i, j, rfl, rfl, RgOk.of_le (by omega) (by omega) (by omega) (by omega), fun r hr => ?_⟩
    rw [rgV_rngI]
    exact q r (T2.put r _) (g.trans (Grow.put g.ok hr)) (Same.free g.ex hr) (g.ok.i_none hr) upd_same
/-! ### names bound to comprehensions over ints -/
def dF (f : Int → Int) (d : D) : Int := match d with | .int k => f k | _ => 0
theorem dF_map (f : Int → Int) (ns : List Int) : ((ns.map D.int).filter fun _ => true).map (dF f) = ns.map f := by
  rw [List.filter_eq_self.mpr (fun _ _ => rfl), List.map_map]
  rfl
theorem js_mapVI (m : Nat) {scope : Scope} {elt tg iter : Expr} {w : Str} {n : Nat} {f : Int → Int} {py : Pos} {spos : Pos} (hi : JI X tg iter .frs ρ (ns.map D.int))
    (hg : ∀ k s H C cl fp, JGb (Blk X s H scope C cl fp) tg .frs (.int k) [n] (wipeE ρ n) ((wipeE ρ n).set n (some (.v .frs (.int k)))))
    (he : ∀ k, k ∈ ns → ∀ s H C cl fp, JE (Blk X s H scope C cl fp) .frs elt ((wipeE ρ n).set n (some (.v .frs (.int k)))) (.int (f k))) (h : P.nx (ρ.set m (some (.v .frs (.il (ns.map f)))))) (hN : X.N.Nodup) (ok : BlkOk X.N X.env.scope scope [(w, n)]) (hz : ns.length ≤ 100000)
    (hy : X.N[m]? = some y := by rfl) (hyl : X.env.scope.names.lookup y = some .local := by rfl) (hsw : swapsWith (.ListComp elt [⟨tg, iter, [], 0⟩] scope pos) (some (.Name y py)) spos.line X.env = pure true := by exact sw_true rfl rfl rfl (by decide +kernel))
    (hc : X.calm = true := by rfl) (hs : ∀ x, foldedSetIterable iter X.env x = pure x := by exact fs_ns rfl) : JS X (.Assign [.Name y py] (.ListComp elt [⟨tg, iter, [], 0⟩] scope pos) spos) P ρ := by
  have q := js_lcVI (X := X) (P := P) (ρ := ρ) m (own := [(w, n)]) (Tst := fun _ => true) (f := dF f) (ρd := fun d => (wipeE ρ n).set n (some (.v .frs d))) (pos := pos) (py := py) (spos := spos) hi
    (fun d hd s H C cl fp => by
      obtain ⟨k, _, rfl⟩ := List.mem_map.mp hd
      exact hg k s H C cl fp)
    (fun _ _ _ _ _ _ _ => jts_nil)
    (fun d hd _ s H C cl fp => by
      obtain ⟨k, hk, rfl⟩ := List.mem_map.mp hd
      exact he k hk s H C cl fp) (by rw [dF_map]; exact h) hN ok (by rw [List.length_map]; exact hz) hy hyl hsw hc hs
  exact q
end
end Lf

set_option Elab.async false
set_option linter.all false
set_option maxRecDepth 100000
set_option maxHeartbeats 2000000
set_option autoImplicit false
namespace Lf
open PySem L2
/-! ### dicts with tuples of ints as keys -/
theorem tupK {K : PySem.W.Frag} {H : Hp} {v : V} {ks : List Int} (r : Rp K H v (.tup (ks.map D.int))) : ∃ b, v = .ref b ∧ H b = some (.tup ((ks.map Sum.inl : List Key).map kV)) := by
  cases r with
  | tup h ra =>
    have e := ra.of_il
    subst e
    exact ⟨_, rfl, by rw [List.map_map]; exact h⟩
/-- a display with one pair, its key a tuple -/
def tDispT (tk tv : TE) : TE := fun σ H Q => ∀ p, H p = none → tk σ (upd H p (.dT [])) fun x H1 => tv σ H1 fun y H2 => H2 p = some (.dT []) ∧ ∃ (ks : List Key) (b : Addr), x = .ref b ∧ H2 b = some (.tup (ks.map kV)) ∧ Q (.ref p) (upd H2 p (.dT [(ks, y)]))
theorem pe_dispT {X : Cx} {k v : Expr} {pos : Pos} {tk tv : TE} (hu : X.A.units + 1 < cLine) (hk : PE X k tk) (hv : PE X v tv) : PE X (.Dict [some k] [v] pos) (tDispT tk tv) := by
  refine ⟨fun pins s σ H Q I q => ?_⟩
  have hn := I.hok.fresh (Nat.le_refl s.heap.objs.size)
  have J := I.laid (a := s.heap.objs.size) (o := .dT []) (h' := s.heap.push { cls := .type "dict", data := .dict #[] }) (t' := s.toks) (fun _ _ z => Heap.get?_push_of_some _ z) (Nat.le_refl _) (dt_empty s.heap I.big)
  have pp : PPs X pos [some k] [v] [(tk, tv)] := pps_cons hk hv pps_nil
  have walk := pp.run pins _ σ _ (fun ps H2 => ∃ x y, ps = [(x, y)] ∧ H2 s.heap.objs.size = some (.dT []) ∧ ∃ (ks : List Key) (b : Addr), x = .ref b ∧ H2 b = some (.tup (ks.map kV)) ∧ Q (.ref s.heap.objs.size) (upd H2 s.heap.objs.size (.dT [(ks, y)]))) J
    (by
      have z := q _ hn
      have e : ∀ (x y : V) (H2 : Hp), (H2 s.heap.objs.size = some (.dT []) ∧ ∃ (ks : List Key) (b : Addr), x = .ref b ∧ H2 b = some (.tup (ks.map kV)) ∧ Q (.ref s.heap.objs.size) (upd H2 s.heap.objs.size (.dT [(ks, y)]))) =
          (∃ x' y', [(x, y)] = [(x', y')] ∧ H2 s.heap.objs.size = some (.dT []) ∧ ∃ (ks : List Key) (b : Addr), x' = .ref b ∧ H2 b = some (.tup (ks.map kV)) ∧ Q (.ref s.heap.objs.size) (upd H2 s.heap.objs.size (.dT [(ks, y')]))) := fun x y H2 => propext
        ⟨fun h => ⟨x, y, rfl, h⟩, fun ⟨x', y', e, h⟩ => by cases e; exact h⟩
      have e2 : (fun (x : V) (H1 : Hp) => tv σ H1 fun y H2 => (H2 s.heap.objs.size = some (.dT []) ∧ ∃ (ks : List Key) (b : Addr), x = .ref b ∧ H2 b = some (.tup (ks.map kV)) ∧ Q (.ref s.heap.objs.size) (upd H2 s.heap.objs.size (.dT [(ks, y)])))) =
          (fun (x : V) (H1 : Hp) => tv σ H1 fun y H2 => (∃ x' y', [(x, y)] = [(x', y')] ∧ H2 s.heap.objs.size = some (.dT []) ∧ ∃ (ks : List Key) (b : Addr), x' = .ref b ∧ H2 b = some (.tup (ks.map kV)) ∧ Q (.ref s.heap.objs.size) (upd H2 s.heap.objs.size (.dT [(ks, y')])))) :=
        funext fun x => funext fun H1 => congrArg (tv σ H1) (funext fun y => funext fun H2 => e x y H2)
      rw [e2] at z
      exact z)
  rw [arm_eval_Dict [some k] [v] pos X.env, zip_pairTrees [some k] [v] X.env pos rfl rfl, dictDisplay_pairs (pairTrees [some k] [v] X.env pos) (by intro z; cases z) (by show 1 < 17; decide)]
  refine wpAny_bind (wpAny_standAt (wpAny_bind (wpAny_subDictH (knd := tupleKind (mixKind X.prog X.w)) (Q := fun d s' => wpAny (model X.prog X.w) X.A (pure (Value.ref d)) (EP X pins σ Q) X.xe s') (show X.A.units < cLine from Nat.lt_of_succ_lt hu) (by show 1 ≤ 15; decide) ?_)))
  refine wpAny_mono walk (fun ws s2 hw => ?_) fun _ _ z => z
  obtain ⟨ps, H2, I2, rel, x, y, rfl, e0, ks, b, rfl, eb, q2⟩ := hw
  cases rel with
  | cons hd tl =>
    cases tl
    rename_i w2
    obtain ⟨u1, u2⟩ := w2
    obtain ⟨r1, r2⟩ := hd
    cases (show u1 = Value.ref b from r1)
    obtain ⟨z, hdd, xs, rel2, dd⟩ := dt_of I2.hok e0
    cases rel2
    refine ⟨[(ks, b, u2)], ⟨rfl, rfl, key_of I2.hok eb, trivial⟩, dd, fun h' tk' dd' hs => wpAny_pure ⟨.ref s.heap.objs.size, _, ?_, rfl, q2⟩⟩
    obtain ⟨o, es, ep, ho, h2, h3, h4, _, h5⟩ := dd'
    refine d_write I2 (by rw [e0]; exact True.intro) hs ⟨o, ho⟩ ⟨by show 1 ≤ sizeLine; rw [sizeLine_eq]; decide, hdd, [(ks, b, u2)], KT.keeps (H := H2) (.cons ⟨rfl, eb, r2⟩ .nil) (fun c ys ec => ?_), o, es, ep, ho, h2, h3, h4, h5⟩
    rw [upd_ne (ne_of ec e0 (fun z => nomatch z))]
    exact ec
section
variable {X : Cx} {e a b c : Expr} {es : List Expr} {ρ ρ1 : PEnv} {d d1 d2 d3 : D} {l la lb lc : Lv} {pos p p2 : Pos} {i j k : Int} {ns ms : List Int} {ds fs : List D} {kt : Nat} {x y z : Str} {st : Stmt} {sts : List Stmt} {P : PEnds} {kvs : List (List Int × D)} {ks : List Int}
/-- x = {k: v} -/
theorem js_setDT1 (n : Nat) {p' : Pos} {kx vx : Expr} (hu : X.A.units + 1 < cLine) (hk : JE X la kx ρ (.tup (ks.map D.int))) (hv : JE X l vx ρ d) (h : P.nx (ρ.set n (some (.dT l [(ks, d)])))) (hl : l ≠ .full := by decide) (hN : X.N.Nodup) (hi : X.N[n]? = some x := by rfl) (hx : Loc X.env.scope x := by first | exact Or.inl rfl | exact Or.inr rfl)
    (hs : swapsWith (.Dict [some kx] [vx] p) (some (.Name x p')) pos.line X.env = pure false := by exact sw_ns rfl) (hf : X.fn x = true ∨ X.env.scope.names.lookup x = some .local := by exact Or.inl rfl) : JS X (.Assign [.Name x p'] (.Dict [some kx] [vx] p) pos) P ρ :=
  JS.of (ps_set (i := n) hN hi hx (pe_dispT hu pe_w pe_w) hs hf) fun T σ D F m => fun a ha => by
    have g0 : Grow T (T.put a (.dT [])) := Grow.put F.ok ha
    refine hk (T.put a (.dT [])) σ _ (F.grow g0) fun w T1 g1 r1 => hv T1 σ _ (F.grow (g0.trans g1)) fun u T2 g2 r2 => ?_
    have g12 := g1.trans g2
    obtain ⟨b, rfl, hb⟩ := tupK ((r1.mono g1.ok.full).mono g2.ex)
    have ha2 : T2.h a = some (.dT []) := g12.ex _ _ upd_same
    have hi2 : T2.i a = none := g12.fi a (F.ok.i_none ha) (by show upd T.h a _ a ≠ none; rw [upd_same]; intro z; cases z)
    refine ⟨ha2, _, b, rfl, hb, ?_⟩
    have g := g0.trans g12
    refine m.nx _ _ (T2.put a (.dT [(ks.map Sum.inl, u)])) (g.w.trans (Gw.put g.ok hi2)) (((F.grow g).put hi2 (F.fresh ha)).setOwn (e := .dT l [(ks, d)]) ⟨hl, a, _, rfl, upd_same, hi2, ?_⟩ (F.fresh ha)) h
    have z : RpK keyT X.K (T2.at l) [(keyT ks, u)] [(ks, d)] := .cons r2 .nil
    cases l with
    | full => exact absurd rfl hl
    | imm => exact z
    | frs => exact z
/-- the look of a dict's name: as it is, or locked -/
def IsDT (e : E) (l : Lv) (kvs : List (List Int × D)) : Prop := e = .dT l kvs ∨ ∃ a o ws, e = .dF a o ws l kvs
theorem Fr.rd {K : PySem.W.Frag} {T : W3} {σ : L2.St} {ρ : PEnv} (F : Fr K T σ ρ) {n : Nat} {e : E} (he : ρ[n]? = some (some e)) (hd : IsDT e l kvs) : ∃ a ws, σ[n]? = some (some (V.ref a)) ∧ Rd T.h a (.dT ws) ∧ RpK keyT K (T.at l) ws kvs := by
  obtain ⟨v, h1, h2⟩ := F.val n _ he
  rcases hd with rfl | ⟨a, o, ws, rfl⟩
  · obtain ⟨_, a, ws, rfl, h3, _, r⟩ := h2
    exact ⟨a, ws, h1, .inl h3, r⟩
  · obtain ⟨_, rfl, h3, _, r⟩ := h2
    exact ⟨a, ws, h1, .inr ⟨o, h3⟩, r⟩
theorem Rd.mono {H H' : Hp} {a : Addr} {u : HO} (e : Same H H') (h : Rd H a u) : Rd H' a u := by
  rcases h with h | ⟨o, h⟩
  · exact .inl (e _ _ h)
  · exact .inr ⟨o, e _ _ h⟩
theorem jc_inT (n : Nat) {q : E} (hu : X.A.units + 1 < cLine) (hk : JE X lb b ρ (.tup (ks.map D.int))) (hr : ρ[n]? = some (some q)) (hq : IsDT q l kvs) (hN : X.N[n]? = some x := by rfl)
    (hv : Vis X.env.scope x := by first | exact Or.inl rfl | exact Or.inr (Or.inl rfl) | exact Or.inr (Or.inr rfl)) (hd : (x == ("__debug__" : Str)) = false := by decide) (hcd : (x == ("__classdict__" : Str)) = false := by decide) : JC X .In b (.Name x p) ρ (lookP kvs ks).isSome :=
  fun T σ Q F k pins s I => (pc_din hu pe_w (pe_var hN hv hd hcd)).run pins s σ T.h Q I (hk T σ _ F fun u T1 g1 r1 => by
    obtain ⟨a, ws, h1, h2, rr⟩ := (F.grow g1).rd hr hq
    obtain ⟨b, rfl, hb⟩ := tupK (r1.mono g1.ok.full)
    refine ⟨_, h1, a, _, rfl, .inr ⟨ws, ks.map Sum.inl, b, h2, rfl, hb, rfl⟩, ?_⟩
    rcases RpK.look inj_T ks rr with ⟨z1, z2⟩ | ⟨v, d', z1, z2, z3⟩
    · have z1' : valV ws (ks.map Sum.inl) = none := z1
      rw [z1']
      rw [z2] at k
      exact k T1 g1
    · have z1' : valV ws (ks.map Sum.inl) = some v := z1
      rw [z1']
      rw [z2] at k
      exact k T1 g1)
theorem jc_notinT (n : Nat) {q : E} (hu : X.A.units + 1 < cLine) (hk : JE X lb b ρ (.tup (ks.map D.int))) (hr : ρ[n]? = some (some q)) (hq : IsDT q l kvs) (hN : X.N[n]? = some x := by rfl)
    (hv : Vis X.env.scope x := by first | exact Or.inl rfl | exact Or.inr (Or.inl rfl) | exact Or.inr (Or.inr rfl)) (hd : (x == ("__debug__" : Str)) = false := by decide) (hcd : (x == ("__classdict__" : Str)) = false := by decide) : JC X .NotIn b (.Name x p) ρ (!(lookP kvs ks).isSome) :=
  fun T σ Q F k pins s I => (pc_dnotin hu pe_w (pe_var hN hv hd hcd)).run pins s σ T.h Q I (hk T σ _ F fun u T1 g1 r1 => by
    obtain ⟨a, ws, h1, h2, rr⟩ := (F.grow g1).rd hr hq
    obtain ⟨b, rfl, hb⟩ := tupK (r1.mono g1.ok.full)
    refine ⟨_, h1, a, _, rfl, .inr ⟨ws, ks.map Sum.inl, b, h2, rfl, hb, rfl⟩, ?_⟩
    rcases RpK.look inj_T ks rr with ⟨z1, z2⟩ | ⟨v, d', z1, z2, z3⟩
    · have z1' : valV ws (ks.map Sum.inl) = none := z1
      rw [z1']
      rw [z2] at k
      exact k T1 g1
    · have z1' : valV ws (ks.map Sum.inl) = some v := z1
      rw [z1']
      rw [z2] at k
      exact k T1 g1)
/-- d[k], there -/
theorem je_dixT (n : Nat) {q : E} (hu : X.A.units + 1 < cLine) (hk : JE X lb b ρ (.tup (ks.map D.int))) (hr : ρ[n]? = some (some q)) (hq : IsDT q l kvs) (hl : lookP kvs ks = some d) (hN : X.N[n]? = some x := by rfl)
    (hv : Vis X.env.scope x := by first | exact Or.inl rfl | exact Or.inr (Or.inl rfl) | exact Or.inr (Or.inr rfl)) (hd : (x == ("__debug__" : Str)) = false := by decide) (hcd : (x == ("__classdict__" : Str)) = false := by decide) (hs : PlainIx b := by exact px_ns rfl) : JE X l (.Subscript (.Name x p) b pos) ρ d :=
  JE.of (pe_dget hu (pe_var hN hv hd hcd) pe_w hs) fun T σ Q F k => by
    obtain ⟨a, ws, h1, h2, rr⟩ := F.rd hr hq
    refine ⟨_, h1, hk T σ _ F fun u T1 g1 r1 => ?_⟩
    obtain ⟨b, rfl, hb⟩ := tupK (r1.mono g1.ok.full)
    rcases RpK.look inj_T ks (rr.mono (g1.at l)) with ⟨z1, z2⟩ | ⟨v, d', z1, z2, z3⟩
    · rw [z2] at hl; cases hl
    · rw [z2] at hl
      cases hl
      exact ⟨a, v, rfl, .inr ⟨ws, ks.map Sum.inl, b, Rd.mono g1.ex h2, rfl, hb, z1.symm⟩, k v T1 g1 z3⟩
/-- a pair of ints is bound to two names, wherever it is held -/
theorem jg_pairI (n m : Nat) {px py : Pos} {k1 : Nat} (hN : X.N.Nodup) (hi : X.N[n]? = some x := by rfl) (hj : X.N[m]? = some y := by rfl) (hx : Loc X.env.scope x := by first | exact Or.inl rfl | exact Or.inr rfl) (hy : Loc X.env.scope y := by first | exact Or.inl rfl | exact Or.inr rfl)
    (hf : X.fn x = true ∨ X.env.scope.names.lookup x = some .local := by exact Or.inl rfl) (hf2 : X.fn y = true ∨ X.env.scope.names.lookup y = some .local := by exact Or.inl rfl) (hc : X.calm = true := by rfl)
    (hs1 : (assignEach [.Name x px, .Name y py] X.env).map (·.2) = assign (.Name x px) X.env :: (assignEach [.Name y py] X.env).map (·.2) := by rfl) (hs2 : (assignEach [.Name y py] X.env).map (·.2) = assign (.Name y py) X.env :: (assignEach [] X.env).map (·.2) := by rfl)
    (hn : (assignEach [.Name x px, .Name y py] X.env).length = 2 := by rfl) (hst : (assignEach [.Name x px, .Name y py] X.env).findIdx? (·.1) = none := by rfl) :
    JG X (.Tuple [.Name x px, .Name y py] k1 p) l (.tup [.int i, .int j]) ρ ((ρ.set n (some (.v .frs (.int i)))).set m (some (.v .frs (.int j)))) := fun T σ v Q F r q pins s u I rv => by
  cases r with
  | tup h rr =>
    have h := SqT.of (K := X.K) h
    cases rr with
    | cons r1 rr =>
      cases rr with
      | cons r2 rr =>
        cases rr
        exact (pg_tup hc (pgs_cons (pg_name (i := n) hN hi hx hf) (pgs_cons (pg_name (i := m) hN hj hy hf2) pgs_nil hs2) hs1) hn hst).run pins s σ T.h _ u Q I rv
          ⟨_, _, rfl, seqT F.ok.full h, rfl, _, _, rfl, _, _, rfl, rfl, q _ ((F.set (l := .frs) (by decide) (r1.scal rfl)).set (l := .frs) (by decide) (r2.scal rfl))⟩
/-- for k in d: of a dict of one's own, its keys tuples of ints; the dict is locked while it is walked -/
theorem js_forKT (n : Nat) {tg : Expr} {body : List Stmt} {pn : Pos} (hr : ρ[n]? = some (some (.dT l kvs))) (inv : Addr → Obj → List (List Key × V) → List (List Int × D) → PEnv → Prop) (h0 : ∀ a o ws, inv a o ws kvs (ρ.set n (some (.dF a o ws l kvs))))
    (hn : ∀ a o ws rest ρ', inv a o ws rest ρ' → ρ'[n]? = some (some (.dF a o ws l kvs)))
    (hs : ∀ a o ws k d rest ρ', inv a o ws ((k, d) :: rest) ρ' → ∃ ρ2, JG X tg .full (.tup (k.map D.int)) ρ' ρ2 ∧ JSs X body { nx := inv a o ws rest, rt := fun _ => False, rf := fun ρ' d' => P.rt d' ∧ ρ'[n]? = some (some (.dF a o ws l kvs)), ct := inv a o ws rest } ρ2) (hd : ∀ a o ws ρ', inv a o ws [] ρ' → P.nx (ρ'.set n none))
    (hN : X.N[n]? = some x := by rfl) (hv : Vis X.env.scope x := by first | exact Or.inl rfl | exact Or.inr (Or.inl rfl) | exact Or.inr (Or.inr rfl)) (hdb : (x == ("__debug__" : Str)) = false := by decide) (hcd : (x == ("__classdict__" : Str)) = false := by decide)
    (hp : PassesOwn (model X.prog X.w) X.A X.env X.xe := by exact PassesOwn.never) (hc : X.calm = true := by rfl) : JS X (.For tg (.Name x pn) body [] pos) P ρ :=
  JS.of (ps_lock (ps_for hp hc (pi_keys (pe_var hN hv hdb hcd)) pg_w pss_w (fs_ns rfl))) fun T σ DD F m => by
    obtain ⟨v, h1, hl, a, ws, rfl, h2, h3, rr⟩ := F.val n _ hr
    refine ⟨a, .dT ws, h2, True.intro, fun od => ?_⟩
    have F0 := F.chg (o := .frz od (.dT ws)) (e1 := .dF a od ws l kvs) hr rfl h1 rfl ⟨hl, rfl, upd_same, h3, by
      cases l with
      | full => exact absurd rfl hl
      | imm => exact rr
      | frs => exact rr⟩
    have G0 : Gw T (T.put a (.frz od (.dT ws))) := Gw.put F.ok h3
    refine ⟨_, h1, a, od, rfl, .inr ⟨ws, upd_same, ?_⟩⟩
    have hlen := rr.length
    have back : ∀ (T5 : W3) (σ5 : L2.St) (ρ5 : PEnv), Gw T T5 → Fr X.K T5 σ5 ρ5 → ρ5[n]? = some (some (.dF a od ws l kvs)) → T5.h a = some (.frz od (.dT ws)) ∧ T5.i a = none ∧ Gw T (T5.put a (.dT ws)) ∧ Fr X.K (T5.put a (.dT ws)) σ5 (ρ5.set n none) := fun T5 σ5 ρ5 g5 F5 h5 => by
      obtain ⟨v5, q1, _, rfl, q2, q3, _⟩ := F5.val n _ h5
      refine ⟨q2, q3, g5.trans (Gw.put F5.ok q3), ?_⟩
      have F6 : Fr X.K T5 σ5 (ρ5.set n none) := F5.forget (by rw [List.length_set]) fun j e' hj => by
        rcases getset hj with ⟨_, q⟩ | ⟨_, q⟩
        · cases q
        · exact q
      refine F6.put q3 ⟨fun j e' hj o s => ?_, fun j e' hj mb => ?_⟩
      · rcases getset hj with ⟨_, q⟩ | ⟨nj, q⟩
        · cases q
        · exact nj (F5.sep n j _ e' a h5 q rfl o q1 s)
      · rcases getset hj with ⟨_, q⟩ | ⟨nj, q⟩
        · cases q
        · exact F5.sepO j n e' _ a q h5 mb rfl q1
    refine ⟨fun i mm σ H => mm = kvs.length - i ∧ i ≤ kvs.length ∧ ∃ T2 ρ', T2.h = H ∧ Gw T T2 ∧ Fr X.K T2 σ ρ' ∧ inv a od ws (kvs.drop i) ρ', ⟨kvs.length, by simp, Nat.zero_le _, _, _, rfl, G0, F0, h0 a od ws⟩, ?_⟩
    rintro i mm σ2 H2 ⟨rfl, hle, T2, ρ', rfl, gw, F2, hv'⟩
    have hF := hn _ _ _ _ _ hv'
    obtain ⟨v2, q1, _, rfl, q2, q3, q4⟩ := F2.val n _ hF
    cases e : kvs[i]? with
    | none =>
      have hge := List.getElem?_eq_none_iff.mp e
      refine .inl ⟨⟨q2, by omega⟩, ?_⟩
      rw [List.drop_eq_nil_of_le hge] at hv'
      obtain ⟨k1, k2, k3, k4⟩ := back T2 σ2 ρ' gw F2 hF
      exact ⟨q2, m.nx _ σ2 _ k3 k4 (hd _ _ _ _ hv')⟩
    | some kd =>
      obtain ⟨k, d⟩ := kd
      have hlt := (List.getElem?_eq_some_iff.mp e).1
      rw [drop_cons e] at hv'
      obtain ⟨ρ2, hg, hb⟩ := hs _ _ _ _ _ _ _ hv'
      refine .inr ⟨⟨q2, by omega⟩, fun σ3 H3 => ∃ T3 ρ3, T3.h = H3 ∧ Gw T T3 ∧ Fr X.K T3 σ3 ρ3 ∧ inv a od ws (kvs.drop (i + 1)) ρ3, fun σ3 H3 ⟨T3, ρ3, e3, g3, F3, v3⟩ => ⟨kvs.length - (i + 1), by omega, rfl, by omega, T3, ρ3, e3, g3, F3, v3⟩, fun y H' yv => ?_⟩
      obtain ⟨rfl, k', v', qq, hw, rfl, hq⟩ := yv
      have ek : k' = keyT k := by
        have key : ∀ {vs : List (List Key × V)} {ds : List (List Int × D)}, RpK keyT X.K (T2.at l) vs ds → ∀ (i : Nat) (k' : List Key) (v' : V) (k : List Int) (d : D), vs[i]? = some (k', v') → ds[i]? = some (k, d) → k' = keyT k := by
          intro vs ds r
          induction r with
          | nil => intro i k' v' k d h; simp at h
          | cons h r ih =>
            intro i k' v' k d h1 h2
            cases i with
            | zero =>
              simp at h1 h2
              rw [← h1.1, ← h2.1]
            | succ i => exact ih i k' v' k d (by simpa using h1) (by simpa using h2)
        exact key q4 i k' v' k d hw e
      subst ek
      have rk : Rp X.K T2.h (.ref qq) (.tup (k.map D.int)) := .tup hq (by
        unfold keyT
        rw [List.map_map]
        exact RpAll.il k)
      refine hg T2 σ2 _ _ F2 rk fun σ4 F4 => ?_
      exact hb T2 σ4 _ F4 ⟨fun ρ5 σ5 T5 g5 F5 v5 => ⟨T5, ρ5, rfl, gw.trans g5, F5, v5⟩, fun d v T5 g5 z => z.elim, fun ρ5 σ5 T5 g5 F5 z => z.elim, fun ρ5 σ5 T5 g5 F5 v5 => ⟨T5, ρ5, rfl, gw.trans g5, F5, v5⟩, fun _ _ _ _ z => z.elim,
        fun ρ5 σ5 d5 v5 T5 g5 F5 ⟨z1, z2⟩ r5 => by
          obtain ⟨k1, k2, k3, k4⟩ := back T5 σ5 ρ5 (gw.trans g5) F5 z2
          exact ⟨k1, m.rt d5 v5 (T5.put a (.dT ws)) k3 z1 r5⟩⟩
end
end Lf

set_option Elab.async false
set_option linter.all false
set_option maxRecDepth 100000
set_option maxHeartbeats 2000000
set_option autoImplicit false
namespace Lf
open PySem L2
/-! ### promises that tell what holds of the result, not which it is -/
def spUR (K : PySem.W.Frag) (pre : List D → Prop) (R : List D → D → Prop) : Sp := fun vs H Q _ => ∃ ds, RpAll K H vs ds ∧ pre ds ∧
  ∀ v g H' Hn, Same H H' → Same Hn H' → (∀ a, Hn a ≠ none → H a = none) → R ds (erase g) → AtG K Hn H' v g → (∀ b, b ∈ adds g → H b = none ∧ Hn b = none) → Nd g → Q v H'
structure CalleeUR (P : Program) (w : World) (K : PySem.W.Frag) (mg : Str → Option Value) (base : Heap) (k : Nat) (x : Str) (pre : List D → Prop) (R : List D → D → Prop) : Prop where
  ex : ∃ (f : Addr) (fd : FuncData) (ps : List Str), FnOk P w K mg base CX0 k f fd ps (spUR K pre R) ∧ mg x = some (.ref f) ∧ PySem.W.keepIn K (.ref f) = true ∧ Binds K fd ps []
/-- e comes to some value of R; to a new tree of R -/
def JER (X : Cx) (e : Expr) (ρ : PEnv) (R : D → Prop) : Prop :=
  ∀ (T : W3) (σ : L2.St) (Q : VK), Fr X.K T σ ρ → (∀ v d T', Grow T T' → R d → Rp X.K T'.n v d → Q v T'.h) → wE X e σ T.h Q
def JUR (X : Cx) (e : Expr) (ρ : PEnv) (R : D → Prop) : Prop :=
  ∀ (T : W3) (σ : L2.St) (Q : VK), Fr X.K T σ ρ → (∀ v g T', Grow T T' → R (erase g) → AtG X.K T'.n T'.h v g → (∀ b, b ∈ adds g → T.h b = none ∧ T'.i b = none) → Nd g → Q v T'.h) → wE X e σ T.h Q
section
variable {X : Cx} {e a b c : Expr} {es : List Expr} {ρ ρ1 : PEnv} {d d1 d2 d3 : D} {l la lb lc : Lv} {pos p p2 : Pos} {i j k : Int} {ns ms : List Int} {ds fs : List D} {kt : Nat} {x y z : Str} {st : Stmt} {sts : List Stmt} {P : PEnds} {R R' : D → Prop}
theorem JUR.jer (h : JUR X e ρ R) : JER X e ρ R := fun T σ Q F q => h T σ Q F fun v g T' G e r m nd =>
  q v _ (T'.keep (adds g)) (G.keep m) e (r.rp (H2 := (T'.keep (adds g)).n) uni_l fun b mb => keep_n G.ok mb (m b mb).2)
theorem JU.jur (h : JU X .frs e ρ d) : JUR X e ρ (fun d' => d' = d) := fun T σ Q F q => h T σ Q F fun v g T' G e r m nd => q v g T' G e r m nd
theorem JUR.imp (h : JUR X e ρ R) (hR : ∀ d, R d → R' d) : JUR X e ρ R' := fun T σ Q F q => h T σ Q F fun v g T' G e r m nd => q v g T' G (hR _ e) r m nd
theorem jur_call {m n : Nat} {pre : List D → Prop} {R : List D → D → Prop} (C : CalleeUR X.prog X.w X.K X.mg X.base m x pre R) (hr : Room n X.A) (ha : JA X .full (e :: es) ρ ds) (hp : pre ds) (hk : m ≤ n := by decide) (hg : Gl X x := by rfl) (hdb : (x == ("__debug__" : Str)) = false := by decide)
    (he : starEach (e :: es) X.env = (false, eval e X.env) :: starEach es X.env := by exact star_c rfl) (hpl : (backTo pos (starEach es X.env)).any (·.1) = false := by exact back_ns rfl) : JUR X (.Call (.Name x p) (e :: es) [] pos) ρ (R ds) := by
  obtain ⟨f, fd, ps, F, hm, hkp, hb⟩ := C.ex
  intro T σ Q Fm q pins s I
  refine (pe_call F (hr.mono hk) hg hm hkp hb .nil pass0 pa_w hdb he hpl).run pins s σ T.h Q I (ha T σ _ Fm fun vs T1 g1 r1 => ?_)
  refine ⟨ds, by rw [List.append_nil]; exact r1, hp, fun v g H' Hn h1 h2 dj eg rg fr nd => q v g ⟨uni T1.i Hn, uni T1.n Hn, H'⟩ (g1.trans (Grow.called g1.ok h1 h2 dj)) eg (rg.mono (uni_r fun a h => g1.ok.n_none (dj a h)) (Same.refl _)) (fun b mb => ⟨Same.free g1.ex (fr b mb).1, ?_⟩) nd⟩
  show uni T1.i Hn b = none
  rw [uni_right (g1.ok.i_none (fr b mb).1)]
  exact (fr b mb).2
theorem js_setUR (n : Nat) {p' : Pos} (he : JUR X e ρ R) (h : ∀ g, R (erase g) → okG g = true → P.nx (ρ.set n (some (.tr .frs g)))) (hN : X.N.Nodup) (hi : X.N[n]? = some x := by rfl) (hx : Loc X.env.scope x := by first | exact Or.inl rfl | exact Or.inr rfl)
    (hs : swapsWith e (some (.Name x p')) pos.line X.env = pure false := by exact sw_ns rfl) (hf : X.fn x = true ∨ X.env.scope.names.lookup x = some .local := by exact Or.inl rfl) : JS X (.Assign [.Name x p'] e pos) P ρ :=
  JS.of (ps_set (i := n) hN hi hx pe_w hs hf) fun T σ D F m => he T σ _ F fun v g T' G eg r q nd =>
    m.nx _ _ T' G.w ((F.grow G).setTr (l := .frs) ⟨by decide, r, fun b mb => (q b mb).2, nd.nd⟩ fun b mb => F.fresh (q b mb).1) (h g eg nd.ok)
theorem js_setR (n : Nat) {p' : Pos} (he : JER X e ρ R) (h : ∀ d, R d → P.nx (ρ.set n (some (.v .frs d)))) (hN : X.N.Nodup) (hi : X.N[n]? = some x := by rfl) (hx : Loc X.env.scope x := by first | exact Or.inl rfl | exact Or.inr rfl)
    (hs : swapsWith e (some (.Name x p')) pos.line X.env = pure false := by exact sw_ns rfl) (hf : X.fn x = true ∨ X.env.scope.names.lookup x = some .local := by exact Or.inl rfl) : JS X (.Assign [.Name x p'] e pos) P ρ :=
  JS.of (ps_set (i := n) hN hi hx pe_w hs hf) fun T σ D F m => he T σ _ F fun v d T' g hR r => m.nx _ _ T' g.w ((F.grow g).set (l := .frs) (by decide) r) (h d hR)
/-- isinstance(e, C) -/
theorem je_isCR {T : Str} {C : Addr} {b : Bool} {pt : Pos} (hm : X.mg "isinstance" = none) (hmT : X.mg T = some (.ref C)) (ha : JER X e ρ R) (hk : ∀ d, R d → PySem.W.kitOne X.K (tyOf d) (.ref C) = some b ∧ clsOk X.K d)
    (hg : Gl X "isinstance" := by rfl) (hgT : Gl X T := by rfl) (hdb : (T == ("__debug__" : Str)) = false := by decide)
    (h1 : starEach [e, .Name T pt] X.env = (false, eval e X.env) :: starEach [.Name T pt] X.env := by exact star_c rfl) (h2 : starEach [.Name T pt] X.env = (false, eval (.Name T pt) X.env) :: starEach [] X.env := by exact star_c rfl)
    (hpl : (backTo pos (starEach [.Name T pt] X.env)).any (·.1) = false := by exact back_ns rfl) : JE X .frs (.Call (.Name "isinstance" p) [e, .Name T pt] [] pos) ρ (.bl b) :=
  JE.of (pe_callB call_isi hg hm (by decide +kernel) (pa_cons pe_w (pa_cons (pe_glob (v := .ref C) hgT hmT rfl hdb) pa_nil h2) h1) (by decide) (by decide) h1 hpl) fun T σ Q F q => ha T σ _ F fun v d T1 g1 hR r1 =>
    ⟨v, .ref C, tyOf d, _, b, rfl, .own C, (r1.mono (g1.ok.full (a := .frs))).tyx (hk d hR).2, (hk d hR).1, q _ T1 g1 (.bl b)⟩
/-- e.f -/
theorem jer_fld {f : Str} (ha : JER X e ρ R) (hR : ∀ d, R d → ∃ C gs d', d = .obj C gs ∧ Cls X.K C ∧ NoAttr X.K C f ∧ gs.lookup f = some d' ∧ R' d') (hb : attributeBase e f X.env (eval e X.env) = eval e X.env := by rfl) : JER X (.Attribute e f pos) ρ R' := fun T σ Q F q pins s I =>
  (pe_fld pe_w hb).run pins s σ T.h Q I (ha T σ _ F fun v d T1 g1 hd r1 => by
    obtain ⟨C, gs, d', rfl, hc, hn, hl, h'⟩ := hR d hd
    cases r1 with
    | obj h rr =>
      obtain ⟨w, h1, h2⟩ := rr.look hl
      exact ⟨_, C, _, _, w, rfl, g1.ok.full (a := .frs) _ _ h, hc, hn, h1, q w d' T1 g1 h' h2⟩)
/-- len(e), known -/
theorem je_lenR {m : Nat} (hm : X.mg "len" = none) (ha : JER X e ρ R) (hR : ∀ d, R d → ∃ ns : List Int, d = .il ns ∧ ns.length = m) (hg : Gl X "len" := by rfl) (he : starEach [e] X.env = (false, eval e X.env) :: starEach [] X.env := by exact star_c rfl) (hpl : (backTo pos (starEach [] X.env)).any (·.1) = false := by exact back_ns rfl) :
    JE X .frs (.Call (.Name "len" p) [e] [] pos) ρ (.int m) := fun T σ Q F q pins s I => by
  have key : ∀ (v : V) (d : D) (T1 : W3), Grow T T1 → R d → Rp X.K T1.n v d → ∃ (ns : List Int) (a : Addr), v = .ref a ∧ T1.h a = some (.lst (ns.map V.int)) ∧ ns.length = m := fun v d T1 g1 hd r1 => by
    obtain ⟨ns, rfl, hl⟩ := hR d hd
    cases r1 with
    | il h => exact ⟨ns, _, rfl, g1.ok.full (a := .frs) _ _ h, hl⟩
  refine (pe_callB call_len_seq hg hm PySem.boot_len (pa_cons pe_w pa_nil he) (by decide) (by decide) he hpl).run pins s σ T.h Q I (ha T σ _ F fun v d T1 g1 hd r1 => ?_)
  obtain ⟨ns, a, rfl, h1, hl⟩ := key v d T1 g1 hd r1
  refine ⟨_, _, rfl, .inl (SqL.of (K := X.K) h1), ?_⟩
  rw [List.length_map, hl]
  exact q _ T1 g1 (.int _)
end
theorem fn_okUR {P : Program} {w : World} {K : PySem.W.Frag} {mg : Str → Option Value} {base : Heap} {x qual : Str} {st : Stmt} {f : Addr} {fd : FuncData} {N ps : List Str} {k : Nat} {pre : List D → Prop} {R : List D → D → Prop} (F : Fun K x qual st f fd) (S : FnScope N ps (defScope st))
    (hpre : ∀ ds, pre ds → ds.length = ps.length)
    (body : ∀ (cdv : Value) (A : Around) (outer : List Env) (s : Shared) (H : Hp) (E : XK), Room k (A.deeper (PyProof.Rows.envOfC qual (defScope st) s.heap.objs.size f cdv)) → ∀ ds, pre ds →
      JSs (cxOf CX0 P w K mg base N qual (defScope st) f cdv A outer s H E).nox (defBody st) { nx := fun _ => False, rt := fun _ => False, ru := R ds } (startE N.length ds)) :
    FnOk P w K mg base CX0 (k + 1) f fd ps (spUR K pre R) := by
  refine F.ok S (fun vs H Q E ⟨ds, r, hp, _⟩ => by rw [r.length]; exact hpre ds hp) fun cdv A outer s H vs Q E hr ⟨ds, r, hp, q⟩ => ?_
  have hlen : ds.length ≤ N.length := by
    rw [hpre ds hp]
    have := congrArg List.length S.pre
    rw [List.length_take] at this
    omega
  refine ⟨_, pss_w, body cdv A outer s H E hr ds hp ⟨H, fun _ => none, H⟩ _ _ (fr_start r hlen) ⟨fun ρ σ T' g F' z => z.elim, fun d v T' g z => z.elim, fun ρ σ T' g F' z => z.elim, fun ρ σ T' g F' z => z.elim, fun g v T' gw eg rg fr nd => ?_, fun _ _ _ _ _ _ _ z => z.elim⟩⟩
  have fb : ∀ b, b ∈ adds g → H b = none := fun b mb => by
    cases z : H b with
    | none => rfl
    | some o =>
      have z2 := gw.xi b o z
      rw [fr b mb] at z2
      cases z2
  refine q v g T'.h T'.n (gw.xi.trans gw.ok.ih) (gw.ok.ni.trans gw.ok.ih) (fun a h => ?_) eg rg (fun b mb => ⟨fb b mb, gw.ok.n_none' (fr b mb)⟩) nd
  cases z : H a with
  | none => rfl
  | some o => exact absurd (gw.fn a rfl (by show H a ≠ none; rw [z]; intro y; cases y) (by show H a ≠ none; rw [z]; intro y; cases y)) h
end Lf

set_option Elab.async false
set_option linter.all false
set_option maxRecDepth 100000
set_option maxHeartbeats 2000000
set_option autoImplicit false
namespace Lf
open PySem L2
section
variable {X : Cx} {e a b c : Expr} {es : List Expr} {ρ ρ1 : PEnv} {d d1 d2 d3 : D} {l la lb lc : Lv} {pos p p2 : Pos} {i j k : Int} {ns ms os : List Int} {ds fs : List D} {kt : Nat} {x y z : Str} {st : Stmt} {sts : List Stmt} {P : PEnds}
/-- x, y, z = [..], [..], [..] of ints, all own -/
theorem js_parO3 (n m o : Nat) {px py pz pt pt2 : Pos} {k1 k2 : Nat} (ha : JOI X a ρ ns) (hb : JOI X b ρ ms) (hcc : JOI X c ρ os) (h : P.nx (((ρ.set n (some (.ownI ns))).set m (some (.ownI ms))).set o (some (.ownI os)))) (hN : X.N.Nodup) (hnm : n ≠ m := by decide) (hno : n ≠ o := by decide) (hmo : m ≠ o := by decide)
    (hi : X.N[n]? = some x := by rfl) (hj : X.N[m]? = some y := by rfl) (hk : X.N[o]? = some z := by rfl)
    (hx : X.env.scope.names.lookup x = some .local := by rfl) (hy : X.env.scope.names.lookup y = some .local := by rfl) (hz : X.env.scope.names.lookup z = some .local := by rfl) (hc : X.calm = true := by rfl)
    (hw : swappedStores [.Tuple [.Name x px, .Name y py, .Name z pz] k1 pt] (.Tuple [a, b, c] k2 pt2) X.env = pure (some [x, y, z]) := by rfl)
    (hs : swapsWithSole [.Tuple [.Name x px, .Name y py, .Name z pz] k1 pt] (.Tuple [a, b, c] k2 pt2) pos.line X.env = pure false := by exact sws_ns rfl)
    (hs1 : starEach [a, b, c] X.env = (false, eval a X.env) :: starEach [b, c] X.env := by exact star_c rfl) (hs2 : starEach [b, c] X.env = (false, eval b X.env) :: starEach [c] X.env := by exact star_c rfl) (hs3 : starEach [c] X.env = (false, eval c X.env) :: starEach [] X.env := by exact star_c rfl) :
    JS X (.Assign [.Tuple [.Name x px, .Name y py, .Name z pz] k1 pt] (.Tuple [a, b, c] k2 pt2) pos) P ρ :=
  JS.of (ps_par3 (i := n) (j := m) (l := o) hc hN hi hj hk hnm hno hmo hx hy hz (pa_cons pe_w (pa_cons pe_w (pa_cons pe_w pa_nil hs3) hs2) hs1) hw hs) fun T σ D F mm => ha T σ _ F fun a T1 g1 h0 h1 h2 => hb T1 σ _ (F.grow g1) fun q T2 g2 h3 h4 h5 => hcc T2 σ _ ((F.grow g1).grow g2) fun r T3 g3 h6 h7 h8 => by
    refine ⟨_, _, _, rfl, mm.nx _ _ T3 ((g1.w.trans g2.w).trans g3.w) ?_ h⟩
    have F1 := (F.grow g1).setOwn (i := n) (e := .ownI ns) ⟨a, rfl, h2, h1⟩ (F.fresh h0)
    have F2 := (F1.grow g2).setOwn (i := m) (e := .ownI ms) ⟨q, rfl, h5, h4⟩ (F1.fresh h3)
    exact (F2.grow g3).setOwn (i := o) (e := .ownI os) ⟨r, rfl, h8, h7⟩ (F2.fresh h6)
/-- x, y, z = [..], v, u: an own list, two values -/
theorem js_parOVV (n m o : Nat) {px py pz pt pt2 : Pos} {k1 k2 : Nat} (ha : JOI X a ρ ns) (hb : JE X .frs b ρ d1) (hcc : JE X .frs c ρ d2) (h : P.nx (((ρ.set n (some (.ownI ns))).set m (some (.v .frs d1))).set o (some (.v .frs d2)))) (hN : X.N.Nodup) (hnm : n ≠ m := by decide) (hno : n ≠ o := by decide) (hmo : m ≠ o := by decide)
    (hi : X.N[n]? = some x := by rfl) (hj : X.N[m]? = some y := by rfl) (hk : X.N[o]? = some z := by rfl)
    (hx : X.env.scope.names.lookup x = some .local := by rfl) (hy : X.env.scope.names.lookup y = some .local := by rfl) (hz : X.env.scope.names.lookup z = some .local := by rfl) (hc : X.calm = true := by rfl)
    (hw : swappedStores [.Tuple [.Name x px, .Name y py, .Name z pz] k1 pt] (.Tuple [a, b, c] k2 pt2) X.env = pure (some [x, y, z]) := by rfl)
    (hs : swapsWithSole [.Tuple [.Name x px, .Name y py, .Name z pz] k1 pt] (.Tuple [a, b, c] k2 pt2) pos.line X.env = pure false := by exact sws_ns rfl)
    (hs1 : starEach [a, b, c] X.env = (false, eval a X.env) :: starEach [b, c] X.env := by exact star_c rfl) (hs2 : starEach [b, c] X.env = (false, eval b X.env) :: starEach [c] X.env := by exact star_c rfl) (hs3 : starEach [c] X.env = (false, eval c X.env) :: starEach [] X.env := by exact star_c rfl) :
    JS X (.Assign [.Tuple [.Name x px, .Name y py, .Name z pz] k1 pt] (.Tuple [a, b, c] k2 pt2) pos) P ρ :=
  JS.of (ps_par3 (i := n) (j := m) (l := o) hc hN hi hj hk hnm hno hmo hx hy hz (pa_cons pe_w (pa_cons pe_w (pa_cons pe_w pa_nil hs3) hs2) hs1) hw hs) fun T σ D F mm => ha T σ _ F fun a T1 g1 h0 h1 h2 => hb T1 σ _ (F.grow g1) fun v2 T2 g2 r2 => hcc T2 σ _ ((F.grow g1).grow g2) fun v3 T3 g3 r3 => by
    refine ⟨_, _, _, rfl, mm.nx _ _ T3 ((g1.w.trans g2.w).trans g3.w) ?_ h⟩
    have F1 := (F.grow g1).setOwn (i := n) (e := .ownI ns) ⟨a, rfl, h2, h1⟩ (F.fresh h0)
    have F2 := ((F1.grow g2).set (i := m) (l := .frs) (by decide) r2).grow g3
    exact F2.set (i := o) (l := .frs) (by decide) r3
theorem any_pys (f : PyData → Bool) : ∀ ds : List D, (pys ds).any f = ds.any fun d => f (py d)
  | [] => rfl
  | d :: r => by rw [pys, List.any_cons, List.any_cons, any_pys f r]
theorem any_prs (ws : List (Int × Int)) (p : Int × Int) : ((pys (ws.map fun q => D.tup [.int q.1, .int q.2])).any fun z => PyData.eqv z (py (.tup [.int p.1, .int p.2]))) = decide (p ∈ ws) := by
  rw [any_pys, List.any_map]
  have : ((fun d => (py d).eqv (py (D.tup [.int p.1, .int p.2]))) ∘ fun q : Int × Int => D.tup [.int q.1, .int q.2]) = fun q => decide (q = p) := funext fun q => eqD_pair q.1 q.2 p.1 p.2
  rw [this]
  by_cases h : p ∈ ws
  · rw [decide_eq_true h, List.any_eq_true]
    exact ⟨p, h, decide_eq_true rfl⟩
  · rw [decide_eq_false h, List.any_eq_false]
    intro q hq z
    exact h (of_decide_eq_true z ▸ hq)
theorem plains_prs (ws : List (Int × Int)) : plains (ws.map fun q => D.tup [.int q.1, .int q.2]) = true := by
  have := lay_plain _ (lay_prs ws)
  rwa [prs, plain] at this
/-- (i, j) in a list of pairs -/
theorem jc_inP {ws : List (Int × Int)} (hu : X.A.units + 65 < cLine) (ha : JE X la a ρ (.tup [.int i, .int j])) (hb : JE X lb b ρ (prs ws)) : JC X .In a b ρ (decide ((i, j) ∈ ws)) := by
  rw [← any_prs ws (i, j)]
  refine jc_inD hu ha hb rfl (plains_prs ws) (lay_shaped (d := .tup [.int i, .int j]) rfl (of_decide_eq_true rfl)) ?_
  have := lay_shaped (lay_prs ws) (dep_prs ws)
  rwa [prs, py] at this
theorem jc_notinP {ws : List (Int × Int)} (hu : X.A.units + 65 < cLine) (ha : JE X la a ρ (.tup [.int i, .int j])) (hb : JE X lb b ρ (prs ws)) : JC X .NotIn a b ρ (!decide ((i, j) ∈ ws)) := by
  rw [← any_prs ws (i, j)]
  refine jc_notinD hu ha hb rfl (plains_prs ws) (lay_shaped (d := .tup [.int i, .int j]) rfl (of_decide_eq_true rfl)) ?_
  have := lay_shaped (lay_prs ws) (dep_prs ws)
  rwa [prs, py] at this
end
end Lf

set_option Elab.async false
set_option linter.all false
set_option maxRecDepth 100000
set_option maxHeartbeats 2000000
set_option autoImplicit false
/-! ### list(zip(xs, ys)) -/
namespace Lf
open PySem L2
theorem lz_len : typeLookup (.type "zip") "__len__" = pure none := by rw [typeLookup_type, builtinLookup_eq_fast]; kernel_rfl
theorem lz_hint : typeLookup (.type "zip") "__length_hint__" = pure none := by rw [typeLookup_type, builtinLookup_eq_fast]; kernel_rfl
/-- pairs that lie in a heap -/
inductive Prs (h : Heap) : List Addr → List (Value × Value) → Prop
  | nil : Prs h [] []
  | cons {t : Addr} {u v : Value} {ts : List Addr} {zs : List (Value × Value)} : IsPair h t u v → Prs h ts zs → Prs h (t :: ts) ((u, v) :: zs)
theorem Prs.mono {h h' : Heap} {n : Nat} (k : ∀ b o, n ≤ b → h.get? b = some o → h'.get? b = some o) : ∀ {ts : List Addr} {zs : List (Value × Value)}, (∀ t, t ∈ ts → n ≤ t) → Prs h ts zs → Prs h' ts zs
  | _, _, _, .nil => .nil
  | _, _, hb, .cons p r => .cons (k _ _ (hb _ (List.mem_cons_self ..)) p) (r.mono k fun t ht => hb t (List.mem_cons_of_mem _ ht))
section
variable {prog : Program} {w : World} {A : Around} {R : Result → Shared → Prop} {z ti to t0 i1 i2 l1 l2 L0 : Addr} {xs ys : Array Value}
/-- the look of a list in the heap -/
abbrev lzL (h : Heap) (L0 : Addr) (acc : Array Value) (c : Nat) : Prop := h.get? L0 = some { cls := .type "list", dict := none, data := .seq acc c, slots := #[] }
theorem lz_loop (hh : A.handled = none) (D : ZipApart z ti to i1 i2 l1 l2) (neL : L0 ≠ z ∧ L0 ≠ ti ∧ L0 ≠ i1 ∧ L0 ≠ i2 ∧ L0 ≠ l1 ∧ L0 ≠ l2 ∧ L0 ≠ t0) (net : t0 ≠ z ∧ t0 ≠ i1 ∧ t0 ≠ i2) (tiz : ti ≠ z ∧ ti ≠ i1 ∧ ti ≠ i2) (lne : l1 ≠ z ∧ l1 ≠ i1 ∧ l1 ≠ i2 ∧ l2 ≠ z ∧ l2 ≠ i1 ∧ l2 ≠ i2) (hsz : xs.size ≤ 1000) :
    ∀ (k i : Nat) (s : Shared) (acc : Array Value) (c : Nat) (f : Bool) (ot : Obj), min xs.size ys.size - i = k → i ≤ min xs.size ys.size → acc.size = i → IsZipHeld s.heap z ti to t0 f → s.heap.get? t0 = some ot → IsPair s.heap ti (.ref i1) (.ref i2) →
      s.heap.IsListIter i1 l1 i → s.heap.IsListIter i2 l2 i → s.heap.IsList l1 xs → s.heap.IsList l2 ys → lzL s.heap L0 acc c →
      (∀ (h' : Heap) (ts : List Addr) (c' : Nat), (∀ b o, b ≠ L0 → b ≠ z → b ≠ i1 → b ≠ i2 → s.heap.get? b = some o → h'.get? b = some o) → lzL h' L0 (acc ++ (ts.map Value.ref).toArray) c' →
        Prs h' ts ((xs.toList.zip ys.toList).drop i) → (∀ t, t ∈ ts → s.heap.objs.size ≤ t) → ts.Nodup → R (.ok (.ret .none)) { s with heap := h' }) →
      codeAny (model prog w) A (.builtin "list.extend.loop" ⟨[.ref L0, .ref z, .none], []⟩) R s := by
  intro k
  induction k with
  | zero =>
    intro i s acc c f ot hk hi hacc hz ht hti h1 h2 hl1 hl2 hL hR
    refine codeAny_builtin PySem.F.entry_extend_loop ?_
    rw [Around.under_plainId PySem.F.plain_extend_loop _]
    have hend : xs[i]? = none ∨ ys[i]? = none := by
      rcases Nat.le_total xs.size ys.size with q | q
      · exact .inl (Array.getElem?_eq_none (by omega))
      · exact .inr (Array.getElem?_eq_none (by omega))
    show wpAny _ A.in1 (pyNext (.ref z) >>= _) _ _ s
    refine wpAny_bind (wpAny_pyNext_zip_end_held hh D hz ht hti h1 h2 hl1 hl2 hend fun h' kp => wpAny_pure (hR h' [] c (fun b o b0 b1 b2 b3 e => kp b o b1 b2 b3 e) ?_ ?_ (fun t m => nomatch m) List.nodup_nil))
    · have e : acc ++ (([] : List Addr).map Value.ref).toArray = acc := by simp
      rw [e]
      exact kp _ _ neL.1 neL.2.2.1 neL.2.2.2.1 hL
    · rw [List.drop_eq_nil_of_le (by rw [List.length_zip, Array.length_toList, Array.length_toList]; omega)]
      exact .nil
  | succ k ih =>
    intro i s acc c f ot hk hi hacc hz ht hti h1 h2 hl1 hl2 hL hR
    refine codeAny_builtin PySem.F.entry_extend_loop ?_
    rw [Around.under_plainId PySem.F.plain_extend_loop _]
    have ix : i < xs.size := by omega
    have iy : i < ys.size := by omega
    show wpAny _ A.in1 (pyNext (.ref z) >>= _) _ _ s
    refine wpAny_bind (wpAny_pyNext_zip_item_held D hz ht hti h1 h2 hl1 hl2 (Array.getElem?_eq_getElem ix) (Array.getElem?_eq_getElem iy) fun h' hz' h1' h2' hp hs kp => ?_)
    have hL' := kp _ _ neL.1 neL.2.2.1 neL.2.2.2.1 hL
    have nw : s.heap.objs.size ≠ L0 := (Nat.ne_of_lt (Heap.lt_size hL)).symm
    have up : ∀ (b : Addr) (o : Obj), b ≠ L0 → h'.get? b = some o → (h'.update L0 (Obj.mapSeq fun q => q.push (.ref s.heap.objs.size))).get? b = some o := fun b o hb e => (Heap.get?_update_other _ _ (Ne.symm hb)).trans e
    show wpAny _ A.in1 (updateSeq L0 (·.push (.ref s.heap.objs.size)) >>= _) _ _ _
    refine wpAny_bind (wpAny_updateSeq hL' rfl (wpAny_pure ⟨plainId_quiet PySem.F.plain_extend_loop _, ih (i + 1) _ (acc.push (.ref s.heap.objs.size)) _ true ot (by omega) (by omega) (by rw [Array.size_push, hacc]) (up _ _ neL.1.symm hz') (up _ _ neL.2.2.2.2.2.2.symm (kp _ _ net.1 net.2.1 net.2.2 ht)) (up _ _ neL.2.1.symm (kp _ _ tiz.1 tiz.2.1 tiz.2.2 hti))
      (h1'.at fun o e => up _ o neL.2.2.1.symm e) (h2'.at fun o e => up _ o neL.2.2.2.1.symm e) ?_ ?_ (Heap.get?_update_self _ hL' rfl) fun h'' ts c' kp2 hL2 hps hts hnd => ?_⟩) (by rw [hacc, sizeLine_eq]; omega) (by show (acc.push _).size ≤ sizeLine + 1; rw [Array.size_push, hacc, sizeLine_eq]; omega))
    · obtain ⟨o, g1, g2⟩ := hl1
      exact ⟨o, up _ _ neL.2.2.2.2.1.symm (kp _ _ lne.1 lne.2.1 lne.2.2.1 g1), g2⟩
    · obtain ⟨o, g1, g2⟩ := hl2
      exact ⟨o, up _ _ neL.2.2.2.2.2.1.symm (kp _ _ lne.2.2.2.1 lne.2.2.2.2.1 lne.2.2.2.2.2 g1), g2⟩
    · have hsz' : (h'.update L0 (Obj.mapSeq fun q => q.push (.ref s.heap.objs.size))).objs.size = s.heap.objs.size + 1 := by rw [Heap.size_update, hs]
      refine hR h'' (s.heap.objs.size :: ts) c' (fun b o b0 b1 b2 b3 e => kp2 b o b0 b1 b2 b3 (up b o b0 (kp b o b1 b2 b3 e))) ?_ ?_ (fun t m => ?_) ?_
      · have e : acc ++ ((s.heap.objs.size :: ts).map Value.ref).toArray = acc.push (.ref s.heap.objs.size) ++ (ts.map Value.ref).toArray := by
          apply Array.toList_inj.mp
          simp
        rw [e]
        exact hL2
      · have e : (xs.toList.zip ys.toList).drop i = (xs[i], ys[i]) :: (xs.toList.zip ys.toList).drop (i + 1) := by
          rw [List.drop_eq_getElem_cons (by rw [List.length_zip, Array.length_toList, Array.length_toList]; omega)]
          congr 1
          simp
        rw [e]
        refine .cons (kp2 _ _ nw ?_ ?_ ?_ (up _ _ nw hp)) hps
        · exact (Nat.ne_of_lt (Heap.lt_size hz)).symm
        · obtain ⟨_, q, _⟩ := h1; exact (Nat.ne_of_lt (Heap.lt_size q)).symm
        · obtain ⟨_, q, _⟩ := h2; exact (Nat.ne_of_lt (Heap.lt_size q)).symm
      · rcases List.mem_cons.mp m with rfl | m
        · exact Nat.le_refl _
        · have := hts t m
          show s.heap.objs.size ≤ t
          have q : (h'.update L0 (Obj.mapSeq fun q => q.push (.ref s.heap.objs.size))).objs.size ≤ t := this
          omega
      · refine List.nodup_cons.mpr ⟨fun m => ?_, hnd⟩
        have q : (h'.update L0 (Obj.mapSeq fun q => q.push (.ref s.heap.objs.size))).objs.size ≤ s.heap.objs.size := hts _ m
        omega
/-- the loop from its first turn on -/
theorem lz_first (hh : A.handled = none) (D : ZipApart z ti to i1 i2 l1 l2) (neL : L0 ≠ z ∧ L0 ≠ ti ∧ L0 ≠ to ∧ L0 ≠ i1 ∧ L0 ≠ i2 ∧ L0 ≠ l1 ∧ L0 ≠ l2) (lne : l2 ≠ z ∧ l2 ≠ to ∧ l2 ≠ i1 ∧ l2 ≠ i2) (hsz : xs.size ≤ 1000) {s : Shared} {c : Nat} {u v : Value}
    (hz : IsZip s.heap z ti to .none) (hti : IsPair s.heap ti (.ref i1) (.ref i2)) (hto : IsPair s.heap to u v) (h1 : s.heap.IsListIter i1 l1 0) (h2 : s.heap.IsListIter i2 l2 0) (hl1 : s.heap.IsList l1 xs) (hl2 : s.heap.IsList l2 ys) (hL : lzL s.heap L0 #[] c)
    (hR : ∀ (h' : Heap) (ts : List Addr) (c' : Nat), (∀ b o, b ≠ L0 → b ≠ z → b ≠ to → b ≠ i1 → b ≠ i2 → s.heap.get? b = some o → h'.get? b = some o) → lzL h' L0 (ts.map Value.ref).toArray c' →
        Prs h' ts (xs.toList.zip ys.toList) → (∀ t, t ∈ ts → s.heap.objs.size ≤ t) → ts.Nodup → R (.ok (.ret .none)) { s with heap := h' }) :
      codeAny (model prog w) A (.builtin "list.extend.loop" ⟨[.ref L0, .ref z, .none], []⟩) R s := by
  refine codeAny_builtin PySem.F.entry_extend_loop ?_
  rw [Around.under_plainId PySem.F.plain_extend_loop _]
  show wpAny _ A.in1 (pyNext (.ref z) >>= _) _ _ s
  by_cases h0 : min xs.size ys.size = 0
  · have hend : xs[0]? = none ∨ ys[0]? = none := by
      rcases Nat.le_total xs.size ys.size with q | q
      · exact .inl (Array.getElem?_eq_none (by omega))
      · exact .inr (Array.getElem?_eq_none (by omega))
    refine wpAny_bind (wpAny_pyNext_zip_end hh D hz hti hto h1 h2 hl1 hl2 hend fun h' kp => wpAny_pure (hR h' [] c (fun b o _ b1 b2 b3 b4 e => kp b o b1 b2 b3 b4 e) (kp _ _ neL.1 neL.2.2.1 neL.2.2.2.1 neL.2.2.2.2.1 hL) ?_ (fun t m => nomatch m) List.nodup_nil))
    rw [List.eq_nil_of_length_eq_zero (show (xs.toList.zip ys.toList).length = 0 by rw [List.length_zip, Array.length_toList, Array.length_toList]; exact h0)]
    exact .nil
  · have ix : 0 < xs.size := by omega
    have iy : 0 < ys.size := by omega
    refine wpAny_bind (wpAny_pyNext_zip_item D hz hti hto h1 h2 hl1 hl2 (Array.getElem?_eq_getElem ix) (Array.getElem?_eq_getElem iy) fun h' hz' _ h1' h2' hp hs kp => ?_)
    have hL' := kp _ _ neL.1 neL.2.2.1 neL.2.2.2.1 neL.2.2.2.2.1 hL
    have lt : ∀ {b : Addr} {o : Obj}, s.heap.get? b = some o → s.heap.objs.size ≠ b := fun e => (Nat.ne_of_lt (Heap.lt_size e)).symm
    have nw : s.heap.objs.size ≠ L0 := lt hL
    have nz : s.heap.objs.size ≠ z := lt hz
    have n1 : s.heap.objs.size ≠ i1 := by obtain ⟨_, q, _⟩ := h1; exact lt q
    have n2 : s.heap.objs.size ≠ i2 := by obtain ⟨_, q, _⟩ := h2; exact lt q
    have up : ∀ (b : Addr) (o : Obj), b ≠ L0 → h'.get? b = some o → (h'.update L0 (Obj.mapSeq fun q => q.push (.ref s.heap.objs.size))).get? b = some o := fun b o hb e => (Heap.get?_update_other _ _ (Ne.symm hb)).trans e
    have hsz' : (h'.update L0 (Obj.mapSeq fun q => q.push (.ref s.heap.objs.size))).objs.size = s.heap.objs.size + 1 := by rw [Heap.size_update, hs]
    show wpAny _ A.in1 (updateSeq L0 (·.push (.ref s.heap.objs.size)) >>= _) _ _ _
    refine wpAny_bind (wpAny_updateSeq hL' rfl (wpAny_pure ⟨plainId_quiet PySem.F.plain_extend_loop _, lz_loop (t0 := s.heap.objs.size) (xs := xs) (ys := ys) hh D ⟨neL.1, neL.2.1, neL.2.2.2.1, neL.2.2.2.2.1, neL.2.2.2.2.2.1, neL.2.2.2.2.2.2, nw.symm⟩ ⟨nz, n1, n2⟩ ⟨D.TIz, D.TIi1, D.TIi2⟩ ⟨D.l1z, D.l1i1, D.l1i2, lne.1, lne.2.2.1, lne.2.2.2⟩ hsz (min xs.size ys.size - 1) 1 _ #[.ref s.heap.objs.size] _ false _ rfl (Nat.one_le_iff_ne_zero.mpr h0) rfl (up _ _ neL.1.symm hz') (up _ _ nw hp) (up _ _ neL.2.1.symm (kp _ _ D.TIz D.TITO D.TIi1 D.TIi2 hti))
      (h1'.at fun o e => up _ o neL.2.2.2.1.symm e) (h2'.at fun o e => up _ o neL.2.2.2.2.1.symm e) ?_ ?_ (Heap.get?_update_self _ hL' rfl) fun h'' ts c' kp2 hL2 hps hts hnd => ?_⟩) (by rw [sizeLine_eq]; decide) (by show 1 ≤ sizeLine + 1; omega))
    · obtain ⟨o, g1, g2⟩ := hl1
      exact ⟨o, up _ _ neL.2.2.2.2.2.1.symm (kp _ _ D.l1z D.l1TO D.l1i1 D.l1i2 g1), g2⟩
    · obtain ⟨o, g1, g2⟩ := hl2
      exact ⟨o, up _ _ neL.2.2.2.2.2.2.symm (kp _ _ lne.1 lne.2.1 lne.2.2.1 lne.2.2.2 g1), g2⟩
    · refine hR h'' (s.heap.objs.size :: ts) c' (fun b o b0 b1 b2 b3 b4 e => kp2 b o b0 b1 b3 b4 (up b o b0 (kp b o b1 b2 b3 b4 e))) ?_ ?_ (fun t m => ?_) ?_
      · have e : ((s.heap.objs.size :: ts).map Value.ref).toArray = #[.ref s.heap.objs.size] ++ (ts.map Value.ref).toArray := by
          apply Array.toList_inj.mp
          simp
        rw [e]
        exact hL2
      · have e : xs.toList.zip ys.toList = (xs[0], ys[0]) :: (xs.toList.zip ys.toList).drop 1 := by
          have := List.drop_eq_getElem_cons (l := xs.toList.zip ys.toList) (i := 0) (by rw [List.length_zip, Array.length_toList, Array.length_toList]; omega)
          rw [List.drop_zero] at this
          rw [this]
          congr 1
          simp
        rw [e]
        exact .cons (kp2 _ _ nw nz n1 n2 (up _ _ nw hp)) hps
      · rcases List.mem_cons.mp m with rfl | m
        · exact Nat.le_refl _
        · have q := hts t m
          show s.heap.objs.size ≤ t
          have q : (h'.update L0 (Obj.mapSeq fun q => q.push (.ref s.heap.objs.size))).objs.size ≤ t := q
          omega
      · refine List.nodup_cons.mpr ⟨fun m => ?_, hnd⟩
        have q : (h'.update L0 (Obj.mapSeq fun q => q.push (.ref s.heap.objs.size))).objs.size ≤ s.heap.objs.size := hts _ m
        omega
end
end Lf

set_option Elab.async false
set_option linter.all false
set_option maxRecDepth 100000
set_option maxHeartbeats 2000000
set_option autoImplicit false
namespace Lf
open PySem L2
section
variable {prog : Program} {w : World} {A : Around} {E : Value → Shared → Prop} {z ti to i1 i2 l1 l2 : Addr} {xs ys : Array Value}
/-- a zip of two lists as it is made -/
structure ZNew (h : Heap) (z ti to i1 i2 l1 l2 : Addr) (xs ys : Array Value) : Prop where
  z : IsZip h z ti to .none
  ti : IsPair h ti (.ref i1) (.ref i2)
  to : ∃ u v, IsPair h to u v
  i1 : h.IsListIter i1 l1 0
  i2 : h.IsListIter i2 l2 0
  l1 : h.IsList l1 xs
  l2 : h.IsList l2 ys
theorem ZNew.up {h h' : Heap} {L0 : Addr} (x : ZNew h z ti to i1 i2 l1 l2 xs ys) (k : ∀ b o, b ≠ L0 → h.get? b = some o → h'.get? b = some o) (n : L0 ≠ z ∧ L0 ≠ ti ∧ L0 ≠ to ∧ L0 ≠ i1 ∧ L0 ≠ i2 ∧ L0 ≠ l1 ∧ L0 ≠ l2) : ZNew h' z ti to i1 i2 l1 l2 xs ys := by
  obtain ⟨n1, n2, n3, n4, n5, n6, n7⟩ := n
  obtain ⟨u, v, e⟩ := x.to
  obtain ⟨o1, g1, g2⟩ := x.l1
  obtain ⟨o2, f1, f2⟩ := x.l2
  exact ⟨k _ _ n1.symm x.z, k _ _ n2.symm x.ti, ⟨u, v, k _ _ n3.symm e⟩, x.i1.at fun o e => k _ o n4.symm e, x.i2.at fun o e => k _ o n5.symm e, ⟨o1, k _ _ n6.symm g1, g2⟩, ⟨o2, k _ _ n7.symm f1, f2⟩⟩
theorem lz_call {s : Shared} {Q : Value → Shared → Prop} (hh : A.handled = none) (D : ZipApart z ti to i1 i2 l1 l2) (lne : l2 ≠ z ∧ l2 ≠ to ∧ l2 ≠ i1 ∧ l2 ≠ i2) (hsz : xs.size ≤ 1000) (Z : ZNew s.heap z ti to i1 i2 l1 l2 xs ys)
    (hQ : ∀ (h' : Heap) (ts : List Addr) (c' : Nat), (∀ b o, b ≠ z → b ≠ to → b ≠ i1 → b ≠ i2 → s.heap.get? b = some o → h'.get? b = some o) → lzL h' s.heap.objs.size (ts.map Value.ref).toArray c' → Prs h' ts (xs.toList.zip ys.toList) → (∀ t, t ∈ ts → s.heap.objs.size < t) → ts.Nodup → Q (.ref s.heap.objs.size) { s with heap := h' }) :
    wpAny (model prog w) A (call (.type "list") [.ref z]) Q E s := by
  refine callType_codes (Q₁ := fun obj s₁ => obj = .ref s.heap.objs.size ∧ s₁ = { s with heap := s.heap.push { cls := .type "list", data := .seq #[] } }) PySem.F.called_list (PySem.F.typeCall_list_1 _) PySem.F.entry_list_init (code_list_new _ ⟨rfl, rfl⟩) fun obj s1 hs1 => ?_
  obtain ⟨rfl, rfl⟩ := hs1
  have hL : (s.heap.push { cls := .type "list", data := .seq #[] }).get? s.heap.objs.size = some { cls := .type "list", data := .seq #[] } := Heap.get?_push_size _ rfl
  generalize hS : s.heap.objs.size = L0 at hL hQ
  have lt : ∀ {b : Addr} {o : Obj}, s.heap.get? b = some o → L0 ≠ b := fun e => by rw [← hS]; exact (Nat.ne_of_lt (Heap.lt_size e)).symm
  have nL : L0 ≠ z ∧ L0 ≠ ti ∧ L0 ≠ to ∧ L0 ≠ i1 ∧ L0 ≠ i2 ∧ L0 ≠ l1 ∧ L0 ≠ l2 := by
    obtain ⟨u, v, e⟩ := Z.to
    obtain ⟨_, e1, _⟩ := Z.i1
    obtain ⟨_, e2, _⟩ := Z.i2
    obtain ⟨_, e3, _⟩ := Z.l1
    obtain ⟨_, e4, _⟩ := Z.l2
    exact ⟨lt Z.z, lt Z.ti, lt e, lt e1, lt e2, lt e3, lt e4⟩
  refine ⟨⟨_, hL, rfl⟩, PySem.F.args_list_init_2 _ _, ?_⟩
  have Z1 : ZNew (s.heap.push { cls := .type "list", data := .seq #[] }) z ti to i1 i2 l1 l2 xs ys := Z.up (L0 := L0) (fun b o _ e => Heap.get?_push_of_some _ e) nL
  have k1 : ∀ b o, s.heap.get? b = some o → (s.heap.push { cls := .type "list", data := .seq #[] }).get? b = some o := fun b o e => Heap.get?_push_of_some _ e
  have z1 : (s.heap.push { cls := .type "list", data := .seq #[] }).objs.size = L0 + 1 := by rw [Heap.size_push, hS]
  generalize s.heap.push { cls := .type "list", data := .seq #[] } = h1 at hL Z1 k1 z1
  show wpAny _ _ (do let old ← Builtin.List.listItems (.ref L0); Builtin.List.listUpdate (.ref L0) (fun _ => #[]); letGo old.toList.reverse; Builtin.List.listExtendWith (.ref L0) (.ref z) .none) _ _ { s with heap := h1 }
  refine wpAny_bind ?_
  unfold Builtin.List.listItems
  refine wpAny_bind (wpAny_seqItems (s := { s with heap := h1 }) hL rfl (wpAny_pure ?_))
  show wpAny _ _ (updateSeq L0 (fun _ => #[]) >>= fun _ => letGo (#[] : Array Value).toList.reverse >>= fun _ => Builtin.List.listExtendWith (.ref L0) (.ref z) .none) _ _ { s with heap := h1 }
  refine wpAny_bind (wpAny_updateSeq (s := { s with heap := h1 }) hL rfl ?_)
  have g2 := Heap.get?_update_self (Obj.mapSeq fun _ => (#[] : Array Value)) hL rfl
  have k2 : ∀ b o, b ≠ L0 → h1.get? b = some o → (h1.update L0 (Obj.mapSeq fun _ => (#[] : Array Value))).get? b = some o := fun b o hb e => (Heap.get?_update_other _ _ (Ne.symm hb)).trans e
  have Z2 := Z1.up (L0 := L0) k2 nL
  have z2 : (h1.update L0 (Obj.mapSeq fun _ => (#[] : Array Value))).objs.size = L0 + 1 := by rw [Heap.size_update, z1]
  have k2' : ∀ b o, b ≠ L0 → s.heap.get? b = some o → (h1.update L0 (Obj.mapSeq fun _ => (#[] : Array Value))).get? b = some o := fun b o hb e => k2 b o hb (k1 b o e)
  show wpAny _ _ _ _ _ { s with heap := h1.update L0 (Obj.mapSeq fun _ => (#[] : Array Value)) }
  generalize h1.update L0 (Obj.mapSeq fun _ => (#[] : Array Value)) = h2 at g2 k2' Z2 z2
  refine wpAny_bind (wpAny_letGo ?_)
  have hT : Shared.TypeIs { s with heap := h2 } (.ref z) "zip" := ⟨_, Z2.z, rfl⟩
  unfold Builtin.List.listExtendWith
  refine wpAny_bind (wpAny_typeOf (T := "zip") hT ?_)
  have n1 : Builtin.List.listSameRef (.ref L0) (.ref z) = false := by simp [Builtin.List.listSameRef, nL.1]
  have n2 : (Value.type "zip" == Value.type "list") = false := by decide
  have n3 : (Value.type "zip" == Value.type "tuple") = false := by decide
  simp only [n1, n2, n3, Bool.or_false, Bool.false_eq_true, if_false]
  refine wpAny_bind (wpAny_pyIter_zip (s := { s with heap := h2 }) Z2.z (wpAny_bind (wpAny_holding ?_)))
  unfold Builtin.List.listLengthHint
  refine wpAny_bind (wpAny_specialOf hT lz_len ?_)
  show wpAny _ _ (specialOf (Value.ref z) (Str.ofString "__length_hint__") >>= _) _ _ _
  refine wpAny_bind (wpAny_specialOf hT lz_hint (wpAny_pure ?_))
  show wpAny _ _ (rule "list.extend.makes-room" >>= fun _ => Builtin.List.listTouch (.ref L0) >>= fun _ => again (.builtin "list.extend.loop" ⟨[.ref L0, .ref z, .none], []⟩)) _ _ _
  refine wpAny_bind (wpAny_rule (wpAny_bind ?_))
  show wpAny _ _ (updateSeq L0 (·.push .none) >>= fun _ => updateSeq L0 (·.pop)) _ _ { s with heap := h2 }
  refine wpAny_bind (wpAny_updateSeq (s := { s with heap := h2 }) g2 rfl ?_)
  have g3 := Heap.get?_update_self (Obj.mapSeq fun q => q.push Value.none) g2 rfl
  have k3 : ∀ b o, b ≠ L0 → h2.get? b = some o → (h2.update L0 (Obj.mapSeq fun q => q.push Value.none)).get? b = some o := fun b o hb e => (Heap.get?_update_other _ _ (Ne.symm hb)).trans e
  have z3 : (h2.update L0 (Obj.mapSeq fun q => q.push Value.none)).objs.size = L0 + 1 := by rw [Heap.size_update, z2]
  have Z3 := Z2.up (L0 := L0) k3 nL
  show wpAny _ _ _ _ _ { s with heap := h2.update L0 (Obj.mapSeq fun q => q.push Value.none) }
  generalize h2.update L0 (Obj.mapSeq fun q => q.push Value.none) = h3 at g3 k3 Z3 z3
  refine wpAny_updateSeq (s := { s with heap := h3 }) (hz := by seq_fits) g3 rfl ?_
  have g4 := Heap.get?_update_self (Obj.mapSeq fun q => q.pop) g3 rfl
  have k4 : ∀ b o, b ≠ L0 → h3.get? b = some o → (h3.update L0 (Obj.mapSeq fun q => q.pop)).get? b = some o := fun b o hb e => (Heap.get?_update_other _ _ (Ne.symm hb)).trans e
  have z4 : (h3.update L0 (Obj.mapSeq fun q => q.pop)).objs.size = L0 + 1 := by rw [Heap.size_update, z3]
  have Z4 := Z3.up (L0 := L0) k4 nL
  show wpAny _ _ _ _ _ { s with heap := h3.update L0 (Obj.mapSeq fun q => q.pop) }
  generalize h3.update L0 (Obj.mapSeq fun q => q.pop) = h4 at g4 k4 Z4 z4
  obtain ⟨u, v, hto⟩ := Z4.to
  refine wpAny_pure ⟨plainId_quiet PySem.F.plain_extend_loop _, lz_first (A := A.in1) (s := { s with heap := h4 }) hh D nL lne hsz Z4.z Z4.ti hto Z4.i1 Z4.i2 Z4.l1 Z4.l2 g4 fun h' ts c' kp g5 hps hts hnd => ?_⟩
  refine ⟨rfl, hQ h' ts c' (fun b o b1 b2 b3 b4 e => ?_) g5 hps (fun t m => ?_) hnd⟩
  · have nb := (lt e).symm
    exact kp b o nb b1 b2 b3 b4 (k4 b o nb (k3 b o nb (k2' b o nb e)))
  · have := hts t m
    have q : h4.objs.size ≤ t := this
    omega
end
end Lf

set_option Elab.async false
set_option linter.all false
set_option maxRecDepth 100000
set_option maxHeartbeats 2000000
set_option autoImplicit false
namespace Lf
open PySem L2
/-! ### many new objects at once -/
def updAll (H : Hp) : List (Addr × HO) → Hp
  | [] => H
  | p :: r => updAll (upd H p.1 p.2) r
theorem updAll_off : ∀ {os : List (Addr × HO)} {H : Hp} {b : Addr}, b ∉ os.map (·.1) → updAll H os b = H b
  | [], _, _, _ => rfl
  | p :: r, H, b, h => by
    rw [updAll, updAll_off (fun m => h (by rw [List.map_cons]; exact List.mem_cons_of_mem _ m)), upd_ne (fun z => h (by rw [List.map_cons, z]; exact List.mem_cons_self ..))]
theorem updAll_mem : ∀ {os : List (Addr × HO)} {H : Hp} {a : Addr} {o : HO}, (os.map (·.1)).Nodup → (a, o) ∈ os → updAll H os a = some o
  | p :: r, H, a, o, hn, m => by
    rw [List.map_cons, List.nodup_cons] at hn
    rcases List.mem_cons.mp m with rfl | m
    · rw [updAll, updAll_off hn.1, upd_same]
    · rw [updAll, updAll_mem hn.2 m]
theorem lay_all {X : Cx} {pins : List (Addr × Obj)} {σ : L2.St} {h' : Heap} {tk : Nat} : ∀ (os : List (Addr × HO)) (H : Hp) (s : Shared), L2.Inv X pins σ H s → (∀ b u, s.heap.get? b = some u → h'.get? b = some u) →
    (∀ p, p ∈ os → s.heap.get? p.1 = none ∧ H p.1 = none ∧ ∀ (G : Heap) (H2 : Hp), G.get? p.1 = h'.get? p.1 → ObjOk X.prog X.w H2 G p.1 p.2) → (os.map (·.1)).Nodup → L2.Inv X pins σ (updAll H os) { s with heap := h', toks := tk }
  | [], H, s, I, k, _, _ => I.kept k
  | p :: r, H, s, I, k, ho, hn => by
    rw [List.map_cons, List.nodup_cons] at hn
    obtain ⟨f1, f2, f3⟩ := ho p (List.mem_cons_self ..)
    obtain ⟨G, g1, g2⟩ := L2.restrict h' fun b => (s.heap.get? b).isSome || b == p.1
    have kG : ∀ b u, s.heap.get? b = some u → G.get? b = some u := fun b u e => by
      rw [g1 b (by rw [e]; rfl)]
      exact k b u e
    have Gk : ∀ b u, G.get? b = some u → h'.get? b = some u := fun b u e => by
      cases q : (s.heap.get? b).isSome || b == p.1 with
      | true => rw [← g1 b q]; exact e
      | false => rw [g2 b q] at e; cases e
    have I1 : L2.Inv X pins σ (upd H p.1 p.2) { s with heap := G, toks := tk } := I.laidN kG f1 f2 (f3 G _ (g1 _ (by simp)))
    refine lay_all r (upd H p.1 p.2) { s with heap := G, toks := tk } I1 Gk (fun q hq => ?_) hn.2
    obtain ⟨e1, e2, e3⟩ := ho q (List.mem_cons_of_mem _ hq)
    have ne : q.1 ≠ p.1 := fun z => hn.1 (by rw [← z]; exact List.mem_map.mpr ⟨q, hq, rfl⟩)
    refine ⟨g2 _ ?_, by rw [upd_ne ne]; exact e2, e3⟩
    rw [e1]
    simpa using ne
/-- the pairs of a zip, tracked -/
def zipO (ts : List Addr) (zs : List (V × V)) : List (Addr × HO) := (ts.zip zs).map fun p => (p.1, .tup [p.2.1, p.2.2])
theorem zipO_fst : ∀ {ts : List Addr} {zs : List (V × V)}, ts.length = zs.length → (zipO ts zs).map (·.1) = ts
  | [], [], _ => rfl
  | t :: ts, z :: zs, h => by
    show t :: (zipO ts zs).map (·.1) = _
    rw [zipO_fst (Nat.succ.inj h)]
theorem Prs.length {h : Heap} : ∀ {ts : List Addr} {zs : List (Value × Value)}, Prs h ts zs → ts.length = zs.length
  | _, _, .nil => rfl
  | _, _, .cons _ r => by rw [List.length_cons, List.length_cons, r.length]
theorem vals_zip : ∀ {xs ys : List V} {us vs : List Value}, Vals xs us → Vals ys vs → (xs.zip ys).length = (us.zip vs).length ∧ ∀ (i : Nat) (x y : V), (xs.zip ys)[i]? = some (x, y) → ∃ u v, (us.zip vs)[i]? = some (u, v) ∧ RelV x u ∧ RelV y v := by
  intro xs ys us vs r1 r2
  have l1 := r1.length
  have l2 := r2.length
  refine ⟨by rw [List.length_zip, List.length_zip]; omega, fun i x y h => ?_⟩
  rw [List.getElem?_zip_eq_some] at h
  obtain ⟨u, e1, q1⟩ := r1.get h.1
  obtain ⟨v, e2, q2⟩ := r2.get h.2
  exact ⟨u, v, List.getElem?_zip_eq_some.mpr ⟨e1, e2⟩, q1, q2⟩
theorem Prs.get {h : Heap} : ∀ {ts : List Addr} {zs : List (Value × Value)}, Prs h ts zs → ∀ (i : Nat) (t : Addr) (u v : Value), ts[i]? = some t → zs[i]? = some (u, v) → IsPair h t u v
  | _, _, .cons p r, 0, t, u, v, h1, h2 => by
    simp at h1 h2
    obtain ⟨rfl, rfl⟩ := h2
    subst h1
    exact p
  | _, _, .cons p r, i + 1, t, u, v, h1, h2 => r.get i t u v (by simpa using h1) (by simpa using h2)
def tLstZip (K : PySem.W.Frag) (ta : TA) : TE := fun σ H Q => ta σ H fun vs H1 => ∃ a b xs ys, vs = [.ref a, .ref b] ∧ SqL K H1 a xs ∧ SqL K H1 b ys ∧ xs.length ≤ 1000 ∧
  ∀ (l : Addr) (ts : List Addr), ts.length = (xs.zip ys).length → (∀ t, t ∈ l :: ts → H1 t = none) → (l :: ts).Nodup → Q (.ref l) (updAll H1 ((l, .lst (ts.map V.ref)) :: zipO ts (xs.zip ys)))
theorem vals_refs : ∀ bs : List Addr, Vals (bs.map V.ref) (bs.map Value.ref)
  | [] => .nil
  | _ :: r => .cons rfl (vals_refs r)
theorem pe_listZip {X : Cx} {e e2 : Expr} {ta : TA} {p pos p2 pos2 : Pos} (hc : X.calm = true) (hg : Gl X "list") (hm : X.mg "list" = none) (hg2 : Gl X "zip") (hm2 : X.mg "zip" = none) (ha : PA X [e, e2] ta)
    (n1 : starEach [.Call (.Name "zip" p2) [e, e2] [] pos2] X.env = (false, eval (.Call (.Name "zip" p2) [e, e2] [] pos2) X.env) :: starEach [] X.env)
    (hs : starEach [e, e2] X.env = (false, eval e X.env) :: starEach [e2] X.env) (hpl : (backTo pos2 (starEach [e2] X.env)).any (·.1) = false) :
    PE X (.Call (.Name "list" p) [.Call (.Name "zip" p2) [e, e2] [] pos2] [] pos) (tLstZip X.K ta) := by
  refine ⟨fun pins s σ H Q I h => ?_⟩
  refine PyProof.Rows.Call_ (ld_blt I hg hm PyProof.Rows.boot_list (PyProof.Rows.callWith_type1 (PyProof.Rows.args_cons (PyProof.Rows.Call_ (ld_blt I hg2 hm2 PyProof.Rows.boot_zip (PyProof.Rows.callWith_type1 (thn (ha.run pos2 pins s σ H _ I h) fun us s1 ⟨vs, H1, I1, r1, q1⟩ => ?_) hs hpl))) n1) n1))
  obtain ⟨a, b, xs, ys, ex, hqx, hqy, hsz, q⟩ := q1
  subst ex
  cases r1 with
  | cons r rr =>
    cases rr with
    | cons r' rr =>
      cases rr
      cases r
      cases r'
      obtain ⟨us, rv, pa, _⟩ := I1.list hqx
      obtain ⟨ws, rv2, pb, _⟩ := I1.list hqy
      have la : a < s1.heap.objs.size := pa.lt
      have lb : b < s1.heap.objs.size := pb.lt
      refine call_zip_2 pa.isList pb.isList fun h' hz hti hto h1 h2 hzs hk => PyProof.Rows.args_nil ?_
      have Z : ZNew h' (s1.heap.objs.size + 4) (s1.heap.objs.size + 2) (s1.heap.objs.size + 3) s1.heap.objs.size (s1.heap.objs.size + 1) a b us.toArray ws.toArray := by
        obtain ⟨o1, g1, g2⟩ := pa.isList
        obtain ⟨o2, f1, f2⟩ := pb.isList
        exact ⟨hz, hti, ⟨_, _, hto⟩, h1, h2, ⟨o1, hk _ _ g1, g2⟩, ⟨o2, hk _ _ f1, f2⟩⟩
      have lx := rv.length
      refine lz_call (s := { s1 with heap := h' }) (I1.ok.hd hc) (PySem.W.ktu_apart s1.heap.objs.size a b la lb) ⟨Nat.ne_of_lt (Nat.lt_of_lt_of_le lb (Nat.le_add_right _ _)), Nat.ne_of_lt (Nat.lt_of_lt_of_le lb (Nat.le_add_right _ _)), Nat.ne_of_lt lb, Nat.ne_of_lt (Nat.lt_of_lt_of_le lb (Nat.le_add_right _ _))⟩ (by simp; omega) Z fun h'' ts c' kp hL hps hts hnd => ?_
      have hzs' : ({ s1 with heap := h' } : Shared).heap.objs.size = s1.heap.objs.size + 5 := hzs
      rw [hzs'] at hL hts
      obtain ⟨ez, eg⟩ := vals_zip rv rv2
      have elen : ts.length = (xs.zip ys).length := by
        have := hps.length
        rw [this, ez]
      have tsn : ∀ t, t ∈ ts → s1.heap.objs.size < t := fun t m => Nat.lt_of_le_of_lt (Nat.le_add_right _ 5) (hts t m)
      have nd : ((s1.heap.objs.size + 5) :: ts).Nodup := List.nodup_cons.mpr ⟨fun m => Nat.lt_irrefl _ (hts _ m), hnd⟩
      have old : ∀ t, t ∈ (s1.heap.objs.size + 5) :: ts → s1.heap.objs.size ≤ t := fun t m => by
        rcases List.mem_cons.mp m with rfl | m
        · exact Nat.le_add_right _ _
        · exact Nat.le_of_lt (tsn t m)
      have fst : (((s1.heap.objs.size + 5, .lst (ts.map V.ref)) :: zipO ts (xs.zip ys) : List (Addr × HO)).map (·.1)) = (s1.heap.objs.size + 5) :: ts := by
        rw [List.map_cons, zipO_fst elen]
      refine ⟨.ref (s1.heap.objs.size + 5), _, lay_all ((s1.heap.objs.size + 5, .lst (ts.map V.ref)) :: zipO ts (xs.zip ys)) H1 s1 I1 (fun c o e => ?_) (fun z mz => ?_) (by rw [fst]; exact nd), ?_, q (s1.heap.objs.size + 5) ts elen (fun t m => I1.hok.fresh (old t m)) nd⟩
      · have lc := Heap.lt_size e
        exact kp c o (Nat.ne_of_lt (Nat.lt_of_lt_of_le lc (Nat.le_add_right _ _))) (Nat.ne_of_lt (Nat.lt_of_lt_of_le lc (Nat.le_add_right _ _))) (Nat.ne_of_lt lc) (Nat.ne_of_lt (Nat.lt_of_lt_of_le lc (Nat.le_add_right _ _))) (hk c o e)
      · have mem : z.1 ∈ (s1.heap.objs.size + 5) :: ts := by rw [← fst]; exact List.mem_map.mpr ⟨z, mz, rfl⟩
        refine ⟨Heap.get?_none_of_le (old _ mem), I1.hok.fresh (old _ mem), fun G H2 eG => ?_⟩
        rcases List.mem_cons.mp mz with rfl | mz
        · refine ⟨by rw [List.length_map, elen, List.length_zip, sizeLine_eq]; omega, ts.map Value.ref, c', vals_refs ts, ?_⟩
          rw [eG]
          exact hL
        · obtain ⟨⟨t, x, y⟩, m, rfl⟩ := List.mem_map.mp mz
          obtain ⟨i, hi⟩ := List.getElem?_of_mem m
          rw [List.getElem?_zip_eq_some] at hi
          obtain ⟨u, v, e3, r3, r4⟩ := eg i x y hi.2
          have hp := hps.get i t u v hi.1 e3
          refine ⟨by show 2 ≤ sizeLine; rw [sizeLine_eq]; decide, [u, v], .cons r3 (.cons r4 .nil), ⟨{ cls := .type "tuple", data := .seq #[u, v] }, ?_, rfl, _, rfl⟩⟩
          rw [eG]
          exact hp
      · show Value.ref _ = Value.ref _
        rw [hzs']
section
variable {X : Cx} {e a b c : Expr} {es : List Expr} {ρ ρ1 : PEnv} {d d1 d2 d3 : D} {l la lb lc : Lv} {pos p p2 pos2 : Pos} {i j k : Int} {ns ms os : List Int} {ds fs : List D}
theorem jo_listZip (hm : X.mg "list" = none) (hm2 : X.mg "zip" = none) (ha : JE X la a ρ (.il ns)) (hb : JE X lb b ρ (.il ms)) (hz : ns.length ≤ 1000) (hc : X.calm = true := by rfl) (hg : Gl X "list" := by rfl) (hg2 : Gl X "zip" := by rfl)
    (hs : starEach [a, b] X.env = (false, eval a X.env) :: starEach [b] X.env := by exact star_c rfl) (hs2 : starEach [b] X.env = (false, eval b X.env) :: starEach [] X.env := by exact star_c rfl) (hpl : (backTo pos2 (starEach [b] X.env)).any (·.1) = false := by exact back_ns rfl) :
    JO X .frs (.Call (.Name "list" p) [.Call (.Name "zip" p2) [a, b] [] pos2] [] pos) ρ (zipI ns ms) :=
  JO.of (pe_listZip hc hg hm hg2 hm2 (pa_cons pe_w (pa_cons pe_w pa_nil hs2) hs) (star_c rfl) hs hpl) fun T σ Q F q => ha T σ _ F fun v T1 g1 r1 => hb T1 σ _ (F.grow g1) fun u T2 g2 r2 => by
    have g := g1.trans g2
    have r1' := (r1.mono g1.ok.full).mono g2.ex
    have r2' := r2.mono g2.ok.full
    cases r1' with
    | il h1 =>
      cases r2' with
      | il h2 =>
        refine ⟨_, _, ns.map V.int, ms.map V.int, rfl, SqL.of h1, SqL.of h2, by rw [List.length_map]; exact hz, fun l0 ts elen fr nd => ?_⟩
        have ezip : (ns.map V.int).zip (ms.map V.int) = (ns.zip ms).map fun p => (V.int p.1, V.int p.2) := by rw [List.zip_map]; rfl
        rw [ezip] at elen ⊢
        rw [List.length_map] at elen
        have fst : (((l0, .lst (ts.map V.ref)) :: zipO ts ((ns.zip ms).map fun p => (V.int p.1, V.int p.2)) : List (Addr × HO)).map (·.1)) = l0 :: ts := by
          rw [List.map_cons, zipO_fst (by rw [List.length_map]; exact elen)]
        have sm : Same T2.h (updAll T2.h ((l0, .lst (ts.map V.ref)) :: zipO ts ((ns.zip ms).map fun p => (V.int p.1, V.int p.2)))) := fun c o e => by
          rw [updAll_off (by rw [fst]; exact fun m => by rw [fr c m] at e; cases e)]
          exact e
        have hl0 : updAll T2.h ((l0, .lst (ts.map V.ref)) :: zipO ts ((ns.zip ms).map fun p => (V.int p.1, V.int p.2))) l0 = some (.lst (ts.map V.ref)) := updAll_mem (by rw [fst]; exact nd) (List.mem_cons_self ..)
        have htp : ∀ (i : Nat) (t : Addr) (x y : Int), ts[i]? = some t → (ns.zip ms)[i]? = some (x, y) → updAll T2.h ((l0, .lst (ts.map V.ref)) :: zipO ts ((ns.zip ms).map fun p => (V.int p.1, V.int p.2))) t = some (.tup [.int x, .int y]) := fun i t x y e1 e2 => by
          refine updAll_mem (by rw [fst]; exact nd) (List.mem_cons_of_mem _ (List.mem_map.mpr ⟨(t, (V.int x, V.int y)), ?_, rfl⟩))
          refine List.mem_of_getElem? (i := i) (List.getElem?_zip_eq_some.mpr ⟨e1, ?_⟩)
          rw [List.getElem?_map, e2]
          rfl
        generalize updAll T2.h ((l0, .lst (ts.map V.ref)) :: zipO ts ((ns.zip ms).map fun p => (V.int p.1, V.int p.2))) = H' at sm hl0 htp
        have G : Grow T2 ⟨uni T2.i (restr ts H'), uni T2.n (restr ts H'), H'⟩ := Grow.called g2.ok sm restr_same fun c hn => fr c (List.mem_cons_of_mem _ (restr_dom hn))
        have h0 : T2.h l0 = none := fr l0 (List.mem_cons_self ..)
        refine q l0 (ts.map V.ref) ⟨uni T2.i (restr ts H'), uni T2.n (restr ts H'), H'⟩ (g.trans G) (Same.free g.ex h0) ?_ hl0 ?_
        · show uni T2.i (restr ts H') l0 = none
          rw [uni_right (g2.ok.i_none h0)]
          exact if_neg (List.nodup_cons.mp nd).1
        · have inn : ∀ t, t ∈ ts → uni T2.n (restr ts H') t = H' t := fun t m => by
            rw [uni_right (g2.ok.n_none (fr t (List.mem_cons_of_mem _ m))), restr_in m]
          have key : ∀ (us : List Addr) (zs : List (Int × Int)), us.length = zs.length → (∀ t, t ∈ us → t ∈ ts) → (∀ (i : Nat) (t : Addr) (x y : Int), us[i]? = some t → zs[i]? = some (x, y) → H' t = some (.tup [.int x, .int y])) →
              RpAll X.K (uni T2.n (restr ts H')) (us.map V.ref) (zs.map fun p => D.tup [.int p.1, .int p.2]) := by
            intro us
            induction us with
            | nil =>
              intro zs h _ _
              cases zs with
              | nil => exact .nil
              | cons _ _ => cases h
            | cons t us ih =>
              intro zs h m e
              cases zs with
              | nil => cases h
              | cons z zs =>
                refine .cons (.tup ?_ (.cons (.int _) (.cons (.int _) .nil))) (ih zs (Nat.succ.inj h) (fun t mt => m t (List.mem_cons_of_mem _ mt)) fun i t x y e1 e2 => e (i + 1) t x y (by simpa using e1) (by simpa using e2))
                rw [inn t (m t (List.mem_cons_self ..))]
                exact e 0 t z.1 z.2 rfl rfl
          exact key ts (ns.zip ms) elen (fun _ h => h) htp
end
end Lf

set_option Elab.async false
set_option linter.all false
set_option maxRecDepth 100000
set_option maxHeartbeats 4000000
set_option autoImplicit false
/-! ### set(xs) of a list of ints -/
namespace Lf
open PySem L2
section
variable {P : Program} {w : World} {A : Around} {E : Value → Shared → Prop} {s : Shared}
/-- a set as it is made -/
abbrev ls0 (w : World) : Obj := { cls := .type "set", dict := none, data := .set #[] 0 (.fresh 0 0 (!w.params.followText "set-order")) }
theorem ls_call {b : Addr} {us : Array Value} (ks : List Int) {Q : Value → Shared → Prop} (hh : A.handled = none) (hb : s.heap.IsList b us) (hi : PyProof.Rows.IntsAre us.toList ks) (hz : ks.length + 1 < scanBound)
    (fin : ∀ (h2 : Heap) (t2 m : Nat), SetR w h2 s.heap.objs.size (fun j => decide (j ∈ ks)) m → m ≤ ks.length → (∀ c o, s.heap.get? c = some o → h2.get? c = some o) → Q (.ref s.heap.objs.size) { s with heap := h2, toks := t2 }) :
    wpAny (model P w) A (call (.type "set") [.ref b]) Q E s := by
  have hus : us.size = ks.length := by rw [← PyProof.Rows.IntsAre.length hi, Array.length_toList]
  have mr := PySem.F.called_set.mro
  obtain ⟨_, _, mr⟩ := mr
  have md := PySem.F.called_set.made
  have sb := PySem.F.called_set.sub
  refine wpAny_call (codeAny_of_tree (show wpAny _ _ (callAny (.type "set") _) _ _ _ from ?_))
  refine wpAny_pure ⟨Code.quiet_builtin _ (by decide +kernel), codeAny_builtin PySem.F.entry_type_call ?_⟩
  rw [Around.under_plain (weight_type_call_type "set" [.ref b] []) rfl]
  have nt := PySem.F.called_set.notType
  have cc := PySem.F.called_set.canCreate
  have tc := PySem.F.typeCall_set_1 (.ref b)
  repeat (any_goals (first | assumption | wp_step))
  refine codeAny_mono (code_set_led1 (.ref b) (E := E) (Q₁ := fun x s1 => x = .ref s.heap.objs.size ∧ s1 = { s with heap := s.heap.push (ls0 w) }) ⟨rfl, rfl⟩) fun r s1 hr => ?_
  cases r with
  | error _ => exact hr
  | ok fl =>
    cases fl with
    | ret x =>
      obtain ⟨rfl, rfl⟩ := hr
      have g0 : (s.heap.push (ls0 w)).get? s.heap.objs.size = some (ls0 w) := Heap.get?_push_size _ rfl
      have ty : Shared.TypeIs { s with heap := s.heap.push (ls0 w) } (.ref s.heap.objs.size) "set" := ⟨_, g0, rfl⟩
      have lk := PySem.F.called_set.init.lookup
      have bd := PySem.F.called_set.init.bind (.ref s.heap.objs.size)
      repeat (any_goals (first | assumption | wp_step))
      refine codeAny_mono (codeAny_call_builtin (R := wants (fun r s2 => r = .none ∧ ∃ h2 t2 m, s2 = { s with heap := h2, toks := t2 } ∧ SetR w h2 s.heap.objs.size (fun j => decide (j ∈ ks)) m ∧ m ≤ ks.length ∧ (∀ c o, s.heap.get? c = some o → h2.get? c = some o)) E) PySem.F.called_set.init.plain PySem.F.entry_set_init (check_set_init_1 ty ?_)) fun r2 s2 hr2 => ?_
      · obtain ⟨⟨c1, c2, c3, c4⟩, hol, hcl, nl, hdl⟩ := hb
        simp only at hcl hdl
        subst hcl
        subst hdl
        have g1 : (s.heap.push (ls0 w)).get? b = some { cls := .type "list", dict := c2, data := .seq us nl, slots := c4 } := Heap.get?_push_of_some _ hol
        have s1' := PySem.F.sub_list_set
        have s2' := PySem.F.sub_list_frozenset
        have nd : (Value.type "list" == Value.type "dict") = false := by decide
        have lb : (s.heap.push (ls0 w)).IsList b us := ⟨_, g1, rfl, nl, rfl⟩
        unfold Builtin.«set.__init__» noKeywords Builtin.Frozenset.updateFrom
        generalize hPI : pyIter = pI
        wp_walk
        subst hPI
        refine wpAny_pyIter_list lb (wpAny_bind (wpAny_runValue ?_))
        have blt : b < s.heap.objs.size := Heap.lt_size hol
        have hh3 : A.in1.in1.in1.handled = none := by simp [hh]
        have z1 : (s.heap.push (ls0 w)).objs.size = s.heap.objs.size + 1 := Heap.size_push ..
        have nI : b ≠ (s.heap.push (ls0 w)).objs.size := by rw [z1]; exact Nat.ne_of_lt (Nat.lt_succ_of_lt blt)
        have nS : s.heap.objs.size ∉ [(s.heap.push (ls0 w)).objs.size, b] := by
          rw [z1]
          intro m
          rcases List.mem_cons.mp m with q | q
          · exact Nat.ne_of_lt (Nat.lt_succ_self _) q
          · exact Nat.ne_of_gt blt (List.mem_singleton.mp q)
        have vl : ∀ (i : Nat) (v : Value), us[i]? = some v → ∃ k t, ks[i]? = some k ∧ v = .int k t := fun i v hv => by
          have hi' : i < ks.length := by rw [← hus]; exact (Array.getElem?_eq_some_iff.mp hv).1
          obtain ⟨t, e⟩ := PyProof.Rows.IntsAre.int_at hi i v (by rw [Array.getElem?_toList]; exact hv)
          exact ⟨ks[i], t, List.getElem?_eq_getElem hi', by rw [e, List.getD_eq_getElem?_getD, List.getElem?_eq_getElem hi'] <;> rfl⟩
        refine set_update_ints ((Walks.list hh3 _ b nI us).toS) s.heap.objs.size nS ks hus hz vl (us.size - 0) 0 _ (by omega) (Nat.zero_le _) ⟨⟨_, Heap.get?_push_size _ rfl, rfl, rfl⟩, (lb.push _)⟩ ⟨0, Nat.le_refl 0, setR_new_at (Heap.get?_push_of_some _ g0)⟩ ?_
        intro s3 m3 mv hm3 R3
        obtain ⟨h3, g3, d3, t3, o3⟩ := s3
        have q1 : g3 = s.gens := mv.gens
        have q2 : d3 = s.drawn := mv.drawn
        have q3 : o3 = s.os := mv.os
        subst q1
        subst q2
        subst q3
        refine (show wpAny _ _ _ _ _ _ from wpAny_pure (show wpAny _ _ (ret Value.none) _ _ _ from ?_))
        refine wpAny_pure ⟨rfl, h3, t3, m3, rfl, R3, by rw [← hus]; exact hm3, fun c o e => ?_⟩
        have lc : c < s.heap.objs.size := Heap.lt_size e
        refine mv.heap c o (fun m => ?_) (Heap.get?_push_of_some _ (Heap.get?_push_of_some _ e))
        rcases List.mem_cons.mp m with q | q
        · exact Nat.ne_of_lt lc q
        · rw [z1] at q
          exact Nat.ne_of_lt (Nat.lt_succ_of_lt lc) (List.mem_singleton.mp q)
      · cases r2 with
        | error _ => exact hr2
        | ok fl2 =>
          cases fl2 with
          | ret r =>
            obtain ⟨rfl, h2, t2, m, rfl, R2, hm, kp⟩ := hr2
            repeat (any_goals (first | assumption | wp_step))
            exact fin _ _ _ R2 hm kp
          | _ => exact hr2.elim
    | _ => exact hr.elim
end
section
variable {X : Cx}
def rSetOf (K : PySem.W.Frag) (w : World) : List V → Hp → VK → Prop := fun xs H Q => ∃ (l : Addr) (ks : List Int), xs = [.ref l] ∧ SqL K H l (ks.map V.int) ∧ ks.length ≤ 4000 ∧
  ∀ (p : Addr) (m : Nat), H p = none → m ≤ ks.length → Q (.ref p) (upd H p (SetO w p (fun j => decide (j ∈ ks)) m))
theorem cr_setL (hc : X.calm = true) : CallR X (.type "set") (rSetOf X.K X.w) := by
  intro pins s σ H xs us Q I r h
  obtain ⟨l, ks, rfl, hq, hz, q⟩ := h
  obtain ⟨u, rfl, rx⟩ := r.one
  cases rx
  obtain ⟨its, rv, pl, _⟩ := I.list hq
  refine ls_call ks (I.ok.hd hc) pl.isList (by simpa using rv.ints) (by unfold scanBound; omega) fun h2 t2 m R hm kp => ?_
  exact ⟨.ref s.heap.objs.size, _, I.laid (t' := t2) kp (Nat.le_refl _) (setO_new R), rfl, q _ m (I.hok.fresh (Nat.le_refl _)) hm⟩
def rLenSet (w : World) : List V → Hp → VK → Prop := fun xs H Q => ∃ (a : Addr) (S : Int → Bool) (n : Nat), xs = [.ref a] ∧ H a = some (SetO w a S n) ∧
  ∀ ks : List Int, ks.Nodup → (∀ k, k ∈ ks ↔ S k = true) → ks.length = n → Q (.int (n : Nat)) H
theorem cr_lenSet : CallR X (.builtin "len") (rLenSet X.w) := by
  intro pins s σ H xs us Q I r h
  obtain ⟨a, S, n, rfl, ha, q⟩ := h
  obtain ⟨u, rfl, rx⟩ := r.one
  cases rx
  have R := setO_get I ha
  obtain ⟨o, es, ep, t, ho, hex, hd, g, nd, hm, hb, hf, hn, _⟩ := R
  refine call_len_set ho hex hd hf (by rw [hn]; unfold scanBound at hb; omega) ⟨.int n, H, I.tok _, ⟨_, by rw [hn]⟩, q (es.toList.map keyOf) nd (fun k => (hm k).symm) (by rw [List.length_map, Array.length_toList]; exact hn)⟩
end
/-! ### the members, sorted -/
def insU (x : Int) : List Int → List Int
  | [] => [x]
  | y :: r => if x < y then x :: y :: r else if x = y then y :: r else y :: insU x r
def sortU : List Int → List Int
  | [] => []
  | x :: r => insU x (sortU r)
theorem mem_insU {x k : Int} : ∀ {xs : List Int}, k ∈ insU x xs ↔ k = x ∨ k ∈ xs
  | [] => by simp [insU]
  | y :: r => by
    rw [insU]
    split
    · simp
    · split
      · rename_i h; subst h; simp
      · rw [List.mem_cons, mem_insU, List.mem_cons]
        constructor
        · rintro (h | h | h)
          · exact .inr (.inl h)
          · exact .inl h
          · exact .inr (.inr h)
        · rintro (h | h | h)
          · exact .inr (.inl h)
          · exact .inl h
          · exact .inr (.inr h)
theorem mem_sortU {k : Int} : ∀ {xs : List Int}, k ∈ sortU xs ↔ k ∈ xs
  | [] => Iff.rfl
  | x :: r => by rw [sortU, mem_insU, mem_sortU, List.mem_cons]
theorem pw_insU {x : Int} : ∀ {xs : List Int}, xs.Pairwise (· < ·) → (insU x xs).Pairwise (· < ·)
  | [], _ => by simp [insU]
  | y :: r, h => by
    rw [insU]
    have h' := List.pairwise_cons.mp h
    split
    · rename_i c
      refine List.pairwise_cons.mpr ⟨fun z hz => ?_, h⟩
      rcases List.mem_cons.mp hz with rfl | hz
      · exact c
      · have := h'.1 z hz; omega
    · split
      · exact h
      · refine List.pairwise_cons.mpr ⟨fun z hz => ?_, pw_insU h'.2⟩
        rcases mem_insU.mp hz with rfl | hz
        · omega
        · exact h'.1 z hz
theorem pw_sortU : ∀ xs : List Int, (sortU xs).Pairwise (· < ·)
  | [] => List.Pairwise.nil
  | _ :: r => pw_insU (pw_sortU r)
theorem nodup_of_pw {xs : List Int} (h : xs.Pairwise (· < ·)) : xs.Nodup := h.imp fun h => by omega
theorem pw_ext : ∀ {xs ys : List Int}, xs.Pairwise (· < ·) → ys.Pairwise (· < ·) → (∀ k, k ∈ xs ↔ k ∈ ys) → xs = ys
  | [], [], _, _, _ => rfl
  | [], y :: ys, _, _, h => absurd ((h y).mpr (List.mem_cons_self ..)) List.not_mem_nil
  | x :: xs, [], _, _, h => absurd ((h x).mp (List.mem_cons_self ..)) List.not_mem_nil
  | x :: xs, y :: ys, h1, h2, h => by
    have p1 := List.pairwise_cons.mp h1
    have p2 := List.pairwise_cons.mp h2
    have e : x = y := by
      rcases List.mem_cons.mp ((h x).mp (List.mem_cons_self ..)) with q | q
      · exact q
      · rcases List.mem_cons.mp ((h y).mpr (List.mem_cons_self ..)) with q2 | q2
        · exact q2.symm
        · have := p2.1 x q; have := p1.1 y q2; omega
    subst e
    rw [pw_ext p1.2 p2.2 fun k => ?_]
    have hk := h k
    rw [List.mem_cons, List.mem_cons] at hk
    constructor
    · intro m
      rcases hk.mp (.inr m) with rfl | q
      · have := p1.1 k m; omega
      · exact q
    · intro m
      rcases hk.mpr (.inr m) with rfl | q
      · have := p2.1 k m; omega
      · exact q
theorem len_sortU {xs ks : List Int} (hn : ks.Nodup) (h : ∀ k, k ∈ ks ↔ k ∈ xs) : ks.length = (sortU xs).length :=
  ((List.perm_ext_iff_of_nodup hn (nodup_of_pw (pw_sortU xs))).mpr fun k => by rw [h, mem_sortU]).length_eq
section
variable {X : Cx} {e a b c : Expr} {es : List Expr} {ρ ρ1 : PEnv} {d d1 d2 d3 : D} {l la lb lc : Lv} {pos p p2 pos2 : Pos} {i j k : Int} {ns ms os : List Int} {ds fs : List D}
/-- len(set(xs)) -/
theorem je_lenSet (hm : X.mg "len" = none) (hm2 : X.mg "set" = none) (ha : JE X la a ρ (.il ns)) (hz : ns.length ≤ 4000) (hc : X.calm = true := by rfl) (hg : Gl X "len" := by rfl) (hg2 : Gl X "set" := by rfl)
    (he : starEach [.Call (.Name "set" p2) [a] [] pos2] X.env = (false, eval (.Call (.Name "set" p2) [a] [] pos2) X.env) :: starEach [] X.env := by exact star_c rfl) (he2 : starEach [a] X.env = (false, eval a X.env) :: starEach [] X.env := by exact star_c rfl)
    (hpl : (backTo pos (starEach [] X.env)).any (·.1) = false := by exact back_ns rfl) (hpl2 : (backTo pos2 (starEach [] X.env)).any (·.1) = false := by exact back_ns rfl) :
    JE X .frs (.Call (.Name "len" p) [.Call (.Name "set" p2) [a] [] pos2] [] pos) ρ (.int (sortU ns).length) :=
  JE.of (pe_callB cr_lenSet hg hm PySem.boot_len (pa_cons (pe_callTy (cr_setL hc) hg2 hm2 PyProof.Rows.boot_set (pa_cons pe_w pa_nil he2) (by decide) (by decide) he2 hpl2) pa_nil he) (by decide) (by decide) he hpl) fun T σ Q F q => ha T σ _ F fun v T1 g1 r1 => by
    have r1' := r1.mono g1.ok.full
    cases r1' with
    | il h1 =>
      refine ⟨_, ns, rfl, SqL.of h1, hz, fun p0 m hp hm' => ?_⟩
      refine ⟨_, _, _, rfl, upd_same, fun ks hnd hk hl => ?_⟩
      rw [← hl, len_sortU (xs := ns) hnd (fun k => by rw [hk, decide_eq_true_eq])]
      exact q _ (T1.put p0 _) (g1.trans (Grow.put g1.ok hp)) (.int _)
/-- sorted(set(xs)) -/
theorem joi_sortedSet (hm : X.mg "sorted" = none) (hm2 : X.mg "set" = none) (ha : JE X la a ρ (.il ns)) (hz : ns.length < 64) (hc : X.calm = true := by rfl) (hg : Gl X "sorted" := by rfl) (hg2 : Gl X "set" := by rfl)
    (he : starEach [.Call (.Name "set" p2) [a] [] pos2] X.env = (false, eval (.Call (.Name "set" p2) [a] [] pos2) X.env) :: starEach [] X.env := by exact star_c rfl) (he2 : starEach [a] X.env = (false, eval a X.env) :: starEach [] X.env := by exact star_c rfl)
    (hpl : (backTo pos (starEach [] X.env)).any (·.1) = false := by exact back_ns rfl) (hpl2 : (backTo pos2 (starEach [] X.env)).any (·.1) = false := by exact back_ns rfl) :
    JOI X (.Call (.Name "sorted" p) [.Call (.Name "set" p2) [a] [] pos2] [] pos) ρ (sortU ns) :=
  JOI.of (pe_callB (cr_sortedSet hc) hg hm (by decide +kernel) (pa_cons (pe_callTy (cr_setL hc) hg2 hm2 PyProof.Rows.boot_set (pa_cons pe_w pa_nil he2) (by decide) (by decide) he2 hpl2) pa_nil he) (by decide) (by decide) he hpl) fun T σ Q F q => ha T σ _ F fun v T1 g1 r1 => by
    have r1' := r1.mono g1.ok.full
    cases r1' with
    | il h1 =>
      refine ⟨_, ns, rfl, SqL.of h1, by omega, fun p0 m hp hm' => ?_⟩
      refine ⟨_, _, _, rfl, upd_same, by omega, fun ks p1 hpw hk hl hp1 => ?_⟩
      have e : ks = sortU ns := pw_ext hpw (pw_sortU ns) fun k => by rw [hk, mem_sortU, decide_eq_true_eq]
      subst e
      have G := g1.trans (Grow.put (x := SetO X.w p0 (fun j => decide (j ∈ ns)) m) g1.ok hp)
      have hp1' : (T1.put p0 (SetO X.w p0 (fun j => decide (j ∈ ns)) m)).h p1 = none := hp1
      exact q p1 ((T1.put p0 _).put p1 _) (G.trans (Grow.put G.ok hp1')) (Same.free G.ex hp1') (G.ok.i_none hp1') upd_same
end
end Lf

set_option Elab.async false
set_option linter.all false
set_option maxRecDepth 100000
set_option maxHeartbeats 2000000
set_option autoImplicit false
namespace Lf
open PySem L2
/-! ### a list of one's own that is handed on and stays one's own -/
def tupS : D → Bool
  | .tup ds => ds.all scal
  | d => scal d
mutual
def flatG : G → Bool
  | .d d => tupS d
  | .li _ _ => true
  | .ls _ gs => flatGs gs
  | .ob _ _ _ gs => flatGs gs
def flatGs : List G → Bool
  | [] => true
  | g :: r => flatG g && flatGs r
end
theorem rpall_tupS {K : PySem.W.Frag} {H H' : Hp} : ∀ {vs : List V} {ds : List D}, RpAll K H vs ds → ds.all scal = true → RpAll K H' vs ds
  | _, _, .nil, _ => .nil
  | _, _, .cons h r, e => by
    rw [List.all_cons, Bool.and_eq_true] at e
    exact .cons (h.scal e.1) (rpall_tupS r e.2)
theorem rp_tupS {K : PySem.W.Frag} {H H' : Hp} (k : ∀ b vs, H b = some (.tup vs) → H' b = some (.tup vs)) {v : V} {d : D} (r : Rp K H v d) (h : tupS d = true) : Rp K H' v d := by
  cases r with
  | tup h1 rr => exact .tup (k _ _ h1) (rpall_tupS rr h)
  | int i => exact .int i
  | non => exact .non
  | bl b => exact .bl b
  | str s => exact .str s
  | ptr => exact .ptr _
  | _ => cases h
mutual
theorem AtG.flat {K : PySem.W.Frag} {Hs Hs' H : Hp} (k : ∀ b vs, Hs b = some (.tup vs) → Hs' b = some (.tup vs)) : ∀ {v : V} {g : G}, AtG K Hs H v g → flatG g = true → AtG K Hs' H v g
  | _, _, .d r, h => .d (rp_tupS k r h)
  | _, _, .li h, _ => .li h
  | _, _, .ls h r, f => .ls h (AtGs.flat k r f)
  | _, _, .ob h l r, f => .ob h l (AtGs.flat k r f)
theorem AtGs.flat {K : PySem.W.Frag} {Hs Hs' H : Hp} (k : ∀ b vs, Hs b = some (.tup vs) → Hs' b = some (.tup vs)) : ∀ {vs : List V} {gs : List G}, AtGs K Hs H vs gs → flatGs gs = true → AtGs K Hs' H vs gs
  | _, _, .nil, _ => .nil
  | _, _, .cons h r, f => by
    rw [flatGs, Bool.and_eq_true] at f
    exact .cons (AtG.flat k h f.1) (AtGs.flat k r f.2)
end
def del1 (H : Hp) (a : Addr) : Hp := fun b => if b = a then none else H b
theorem del1_ne {H : Hp} {a b : Addr} (h : b ≠ a) : del1 H a b = H b := if_neg h
theorem del1_some {H : Hp} {a b : Addr} {o : HO} (h : del1 H a b = some o) : b ≠ a ∧ H b = some o := by
  unfold del1 at h
  split at h
  · cases h
  · exact ⟨by assumption, h⟩
section
variable {X : Cx} {e a b c : Expr} {es : List Expr} {ρ ρ1 : PEnv} {d d1 d2 d3 : D} {l la lb lc : Lv} {pos p p2 : Pos} {i j k : Int} {ns ms : List Int} {ds fs : List D} {kt : Nat} {x y z : Str} {st : Stmt} {sts : List Stmt} {P : PEnds}
theorem setI_len (ns : List Int) (i v : Int) : (setI ns i v).length = ns.length := by unfold setI; split <;> simp
theorem JU.thaw (m : Nat) (hr : ρ[m]? = some (some (.own .frs ds))) (h : JU X .frs e (ρ.set m (some (.v .frs (.lst ds)))) d) (hf : ∀ g, erase g = d → okG g = true → flatG g = true) : JU X .frs e ρ d := fun T σ Q F q => by
  obtain ⟨v, h1, _, a, vs, rfl, h2, h3, rr⟩ := F.val m _ hr
  have hn := F.ok.n_none' h3
  obtain ⟨_, F'⟩ := F.keepO (d := .lst ds) hr rfl h1 h2 h3 (.lst upd_same (rr.mono (same_new hn)))
  refine h (T.fix a _) σ Q F' fun v g T3 G3 eg rg fr nd => ?_
  have ia : (T.fix a (.lst vs)).n a = some (.lst vs) := upd_same
  have i3 := G3.xn _ _ ia
  have ni : ∀ b, b ≠ a → (T.fix a (.lst vs)).i b = T.i b := fun b hb => upd_ne hb
  have nn : ∀ b, b ≠ a → (T.fix a (.lst vs)).n b = T.n b := fun b hb => upd_ne hb
  refine q v g ⟨del1 T3.i a, del1 T3.n a, T3.h⟩ ⟨⟨fun b o e => ?_, fun b o e => ?_⟩, G3.ex, fun b o e => ?_, fun b o e => ?_, fun b e1 e2 => ?_, fun b e1 e2 => ?_⟩ eg (rg.flat (fun b ws e => ?_) (hf g eg nd.ok)) (fun b mb => ⟨(fr b mb).1, ?_⟩) nd
  · obtain ⟨q1, q2⟩ := del1_some e
    show del1 T3.i a b = some o
    rw [del1_ne q1]
    exact G3.ok.ni _ _ q2
  · exact G3.ok.ih _ _ (del1_some e).2
  · have hb : b ≠ a := fun z => by rw [z, h3] at e; cases e
    show del1 T3.i a b = some o
    rw [del1_ne hb]
    exact G3.xi _ _ ((ni b hb).trans e)
  · have hb : b ≠ a := fun z => by rw [z, hn] at e; cases e
    show del1 T3.n a b = some o
    rw [del1_ne hb]
    exact G3.xn _ _ ((nn b hb).trans e)
  · by_cases hb : b = a
    · subst hb; exact if_pos rfl
    · show del1 T3.i a b = none
      rw [del1_ne hb]
      exact G3.fi b ((ni b hb).trans e1) e2
  · by_cases hb : b = a
    · subst hb; exact if_pos rfl
    · show del1 T3.n a b = none
      rw [del1_ne hb]
      exact G3.fn b ((nn b hb).trans e1) e2
  · have e' : T3.n b = some (.tup ws) := e
    have hb : b ≠ a := fun z => by rw [z, i3] at e'; cases e'
    show del1 T3.n a b = _
    rw [del1_ne hb]
    exact e'
  · by_cases hb : b = a
    · subst hb; exact if_pos rfl
    · show del1 T3.i a b = none
      rw [del1_ne hb]
      exact (fr b mb).2
/-- xs[i], xs[j] = e, of ints, one's own -/
theorem js_swapI (n : Nat) {px px2 pt pt2 ptt : Pos} {k1 : Nat} {v1 v2 : Int} (hr : ρ[n]? = some (some (.ownI ns))) (he : JE X la e ρ (.tup [.int v1, .int v2])) (hb : JE X lb b ρ (.int i)) (hcc : JE X lc c (ρ.set n (some (.ownI (setI ns i v1)))) (.int j)) (hi1 : inR ns.length i) (hj1 : inR ns.length j)
    (h : P.nx (ρ.set n (some (.ownI (setI (setI ns i v1) j v2))))) (hN : X.N[n]? = some x := by rfl)
    (hv : Vis X.env.scope x := by first | exact Or.inl rfl | exact Or.inr (Or.inl rfl) | exact Or.inr (Or.inr rfl)) (hd : (x == ("__debug__" : Str)) = false := by decide) (hcd : (x == ("__classdict__" : Str)) = false := by decide) (hc : X.calm = true := by rfl)
    (hg1 : ∀ (to ti : TE), PE X (.Name x px) to → PE X b ti → PG X (.Subscript (.Name x px) b pt) (gSub to ti rSetL) := by exact fun to ti h1 h2 => pg_sub h1 h2 set_list)
    (hg2 : ∀ (to ti : TE), PE X (.Name x px2) to → PE X c ti → PG X (.Subscript (.Name x px2) c pt2) (gSub to ti rSetL) := by exact fun to ti h1 h2 => pg_sub h1 h2 set_list)
    (hs1 : (assignEach [.Subscript (.Name x px) b pt, .Subscript (.Name x px2) c pt2] X.env).map (·.2) = assign (.Subscript (.Name x px) b pt) X.env :: (assignEach [.Subscript (.Name x px2) c pt2] X.env).map (·.2) := by rfl)
    (hs2 : (assignEach [.Subscript (.Name x px2) c pt2] X.env).map (·.2) = assign (.Subscript (.Name x px2) c pt2) X.env :: (assignEach [] X.env).map (·.2) := by rfl)
    (hn : (assignEach [.Subscript (.Name x px) b pt, .Subscript (.Name x px2) c pt2] X.env).length = 2 := by rfl) (hst : (assignEach [.Subscript (.Name x px) b pt, .Subscript (.Name x px2) c pt2] X.env).findIdx? (·.1) = none := by rfl)
    (hs : swapsWithSole [.Tuple [.Subscript (.Name x px) b pt, .Subscript (.Name x px2) c pt2] k1 ptt] e pos.line X.env = pure false := by exact sws_ns rfl) (hw : swappedStores [.Tuple [.Subscript (.Name x px) b pt, .Subscript (.Name x px2) c pt2] k1 ptt] e X.env = pure none := by first | exact ss_tup rfl | rfl)
    (h1 : (assignEach [.Tuple [.Subscript (.Name x px) b pt, .Subscript (.Name x px2) c pt2] k1 ptt] X.env).map (·.2) = [assign (.Tuple [.Subscript (.Name x px) b pt, .Subscript (.Name x px2) c pt2] k1 ptt) X.env] := by rfl) :
    JS X (.Assign [.Tuple [.Subscript (.Name x px) b pt, .Subscript (.Name x px2) c pt2] k1 ptt] e pos) P ρ :=
  JS.of (ps_asg pe_w (pg_tup hc (pgs_cons (hg1 _ _ (pe_var hN hv hd hcd) pe_w) (pgs_cons (hg2 _ _ (pe_var hN hv hd hcd) pe_w) pgs_nil hs2) hs1) hn hst) hs hw h1) fun T σ D F m => he T σ _ F fun w T1 g1 r1 => by
    have r1' := r1.mono g1.ok.full
    have one : ∀ (ns' : List Int) (q v : Int), inR ns'.length q → ∃ t : Nat, ixN (ns'.map V.int).length q = some t ∧ (ns'.map V.int).set t (V.int v) = (setI ns' q v).map V.int := fun ns' q v hq => by
      obtain ⟨t, ht, et, w2⟩ := ixN_some hq
      refine ⟨t, by rw [List.length_map]; exact et, ?_⟩
      unfold setI
      rcases w2 with ⟨h0, rfl⟩ | ⟨h0, rfl⟩
      · rw [if_pos h0, List.map_set]
      · rw [if_neg (by omega), List.map_set]
    cases r1' with
    | tup ht rr =>
      cases rr with
      | cons q1 rr =>
        cases rr with
        | cons q2 rr =>
          cases rr
          cases q1
          cases q2
          obtain ⟨v, g0, a, rfl, h2, h3⟩ := F.val n _ hr
          refine ⟨_, _, rfl, SqT.of ht, rfl, _, _, rfl, ?_⟩
          refine ⟨_, g0, hb T1 σ _ (F.grow g1) fun u T2 g2 r2 => ?_⟩
          cases r2
          have g := g1.trans g2
          have h2' := g.ex _ _ h2
          have h3' := g.fi a h3 (by rw [h2]; intro z; cases z)
          obtain ⟨t, et, es⟩ := one ns i v1 hi1
          refine ⟨a, _, i, t, rfl, rfl, h2', et, ?_⟩
          rw [es]
          have F3 := (F.grow g).chg (o := .lst ((setI ns i v1).map V.int)) (e1 := .ownI (setI ns i v1)) hr rfl g0 rfl ⟨a, rfl, upd_same, h3'⟩
          have G3 : Gw T (T2.put a (.lst ((setI ns i v1).map V.int))) := g.w.trans (Gw.put g.ok h3')
          refine ⟨_, _, rfl, ?_⟩
          refine ⟨_, g0, hcc (T2.put a _) σ _ F3 fun u4 T4 g4 r4 => ?_⟩
          cases r4
          have hp : (T2.put a (.lst ((setI ns i v1).map V.int))).h a = some (.lst ((setI ns i v1).map V.int)) := upd_same
          have h5 := g4.ex _ _ hp
          have h6 := g4.fi a h3' (by rw [hp]; intro z; cases z)
          obtain ⟨t2, et2, es2⟩ := one (setI ns i v1) j v2 (by rw [setI_len]; exact hj1)
          refine ⟨a, _, j, t2, rfl, rfl, h5, et2, ?_⟩
          rw [es2]
          have F5 := (F3.grow g4).chg (i := n) (o := .lst ((setI (setI ns i v1) j v2).map V.int)) (e1 := .ownI (setI (setI ns i v1) j v2)) (by rw [List.getElem?_set_self (List.getElem?_eq_some_iff.mp hr).1]) rfl g0 rfl ⟨a, rfl, upd_same, h6⟩
          rw [List.set_set] at F5
          exact ⟨rfl, m.nx _ σ (T4.put a _) ((G3.trans g4.w).trans (Gw.put g4.ok h6)) F5 h⟩
end
end Lf

set_option Elab.async false
set_option linter.all false
set_option maxRecDepth 100000
set_option maxHeartbeats 2000000
set_option autoImplicit false
namespace Lf
open PySem L2
section
variable {X : Cx} {e a b c : Expr} {es : List Expr} {ρ ρ1 : PEnv} {d d1 d2 d3 : D} {l la lb lc : Lv} {pos p p2 : Pos} {i j k : Int} {ns ms : List Int} {ds fs : List D} {kt : Nat} {x y z : Str} {st : Stmt} {sts : List Stmt} {P : PEnds} {lo hi : Option Expr} {ol oh : Option Int}
/-- f() -/
theorem je_call0 {m n : Nat} {pre : List D → Prop} {G : List D → D} (C : Callee X.prog X.w X.K X.mg X.base m x pre G) (hr : Room n X.A) (hp : pre []) (hq : G [] = d := by rfl) (hk : m ≤ n := by decide) (hg : Gl X x := by rfl) (hdb : (x == ("__debug__" : Str)) = false := by decide) : JE X .frs (.Call (.Name x p) [] [] pos) ρ d := by
  subst hq
  obtain ⟨f, fd, ps, F, hm, hkp, hb⟩ := C.ex
  exact JE.of (pe_call0 F (hr.mono hk) hg hm hkp hb .nil pass0 hdb) fun T σ Q Fm q =>
    show tCall (spF X.K pre G) [] E0 tNil σ T.h Q from
    ⟨[], .nil, hp, fun v H' Hn h1 h2 dj rv => q v ⟨uni T.i Hn, uni T.n Hn, H'⟩ (Grow.called Fm.ok h1 h2 dj) (rv.mono (uni_r fun a h => Fm.ok.n_none (dj a h)))⟩
/-- x, y = e, f, where f comes to some value of R -/
theorem js_parR (n m : Nat) {px py pt pt2 : Pos} {k1 k2 : Nat} {R : D → Prop} (ha : JE X .frs a ρ d1) (hb : JER X b ρ R) (h : ∀ d2, R d2 → P.nx ((ρ.set n (some (.v .frs d1))).set m (some (.v .frs d2)))) (hN : X.N.Nodup) (hnm : n ≠ m := by decide) (hi : X.N[n]? = some x := by rfl) (hj : X.N[m]? = some y := by rfl)
    (hx : X.env.scope.names.lookup x = some .local := by rfl) (hy : X.env.scope.names.lookup y = some .local := by rfl) (hc : X.calm = true := by rfl)
    (hw : swappedStores [.Tuple [.Name x px, .Name y py] k1 pt] (.Tuple [a, b] k2 pt2) X.env = pure (some [x, y]) := by rfl)
    (hs : swapsWithSole [.Tuple [.Name x px, .Name y py] k1 pt] (.Tuple [a, b] k2 pt2) pos.line X.env = pure false := by exact sws_ns rfl)
    (hs1 : starEach [a, b] X.env = (false, eval a X.env) :: starEach [b] X.env := by exact star_c rfl) (hs2 : starEach [b] X.env = (false, eval b X.env) :: starEach [] X.env := by exact star_c rfl) : JS X (.Assign [.Tuple [.Name x px, .Name y py] k1 pt] (.Tuple [a, b] k2 pt2) pos) P ρ :=
  JS.of (ps_par (i := n) (j := m) hc hN hi hj hnm hx hy (pa_cons pe_w (pa_cons pe_w pa_nil hs2) hs1) hw hs) fun T σ D F mm => ha T σ _ F fun v1 T1 g1 r1 => hb T1 σ _ (F.grow g1) fun v2 d2 T2 g2 hR r2 => by
    refine ⟨_, _, rfl, mm.nx _ _ T2 (g1.w.trans g2.w) ?_ (h d2 hR)⟩
    exact ((((F.grow g1).set (i := n) (l := .frs) (by decide) r1).grow g2).set (i := m) (l := .frs) (by decide) r2)
/-- lists of constants, read from what may change -/
theorem jo_cutF (ha : JE X la a ρ (.lst ds)) (hl : JP X lo ρ ol) (hh : JP X hi ρ oh) (hsc : ds.all scal = true) : JO X .frs (.Subscript a (.Slice lo hi none p2) pos) ρ (cutL ds ol oh) :=
  JO.of (pe_slice sl_list pe_w po_w po_w) fun T σ Q F q => ha T σ _ F fun v T1 g1 r1 => hl T1 σ _ (F.grow g1) fun T2 g2 => hh T2 σ _ ((F.grow g1).grow g2) fun T3 g3 => by
    have G := (g1.trans g2).trans g3
    have r1' := (r1.mono g1.ok.full).mono (g2.trans g3).ex
    cases r1' with
    | lst h1 rr => exact ⟨_, _, rfl, SqL.of h1, fun p hp => q p _ (T3.put p _) (G.trans (Grow.put G.ok hp)) (Same.free G.ex hp) (G.ok.i_none hp) upd_same (cutV_all (rpall_tupS rr hsc) _ _)⟩
theorem jo_catF (ha : JE X la a ρ (.lst ds)) (hb : JE X lb b ρ (.lst fs)) (hsc : ds.all scal = true) (hsd : fs.all scal = true) (hz : ds.length + fs.length ≤ 100000) : JO X .frs (.BinOp a .Add b pos) ρ (ds ++ fs) :=
  JO.of (pe_op op_catS pe_w pe_w) fun T σ Q F q => ha T σ _ F fun v T1 g1 r1 => hb T1 σ _ (F.grow g1) fun u T2 g2 r2 => by
    have r1' := (r1.mono g1.ok.full).mono g2.ex
    have r2' := r2.mono g2.ok.full
    cases r1' with
    | lst h1 rr =>
      cases r2' with
      | lst h2 rr2 =>
        refine ⟨_, _, _, _, rfl, rfl, SqL.of h1, SqL.of h2, by rw [rr.length, rr2.length]; exact small_of hz, fun p hp => ?_⟩
        exact q p _ (T2.put p _) ((g1.trans g2).trans (Grow.put g2.ok hp)) (Same.free (g1.trans g2).ex hp) (g2.ok.i_none hp) upd_same ((rpall_tupS rr hsc).append (rpall_tupS rr2 hsd))
/-- xs[::-1] -/
theorem jo_rev {k : Nat} {p1 p3 : Pos} (ha : JE X la a ρ (.lst ds)) (z : Lv.le la .imm = true := by rfl) : JO X la (.Subscript a (.Slice none none (some (.UnaryOp .USub (.Constant (.int 1) k p1) p2)) p3) pos) ρ ds.reverse :=
  JO.of (pe_revL pe_w) fun T σ Q F q => ha T σ _ F fun v T1 g1 r1 => by
    cases r1 with
    | lst h1 rr =>
      have h1 := SqL.of (K := X.K) h1
      refine ⟨_, _, rfl, (g1.ok.full (a := la)).seq h1, fun p hp => ?_⟩
      refine q p _ (T1.put p _) (g1.trans (Grow.put g1.ok hp)) (Same.free g1.ex hp) (g1.ok.i_none hp) upd_same ?_
      cases la with
      | full => cases z
      | imm => exact rr.reverse
      | frs => exact rr.reverse
/-- xs[i] = e, of values, one's own -/
theorem js_setOx (n : Nat) {pt : Pos} {t : Nat} (hr : ρ[n]? = some (some (.own l ds))) (he : JE X l e ρ d) (hb : JE X lb b ρ (.int (t : Int))) (hin : t < ds.length) (h : P.nx (ρ.set n (some (.own l (ds.set t d))))) (hN : X.N[n]? = some x := by rfl)
    (hv : Vis X.env.scope x := by first | exact Or.inl rfl | exact Or.inr (Or.inl rfl) | exact Or.inr (Or.inr rfl)) (hd : (x == ("__debug__" : Str)) = false := by decide) (hcd : (x == ("__classdict__" : Str)) = false := by decide)
    (hgs : ∀ (to ti : TE), PE X (.Name x p) to → PE X b ti → PG X (.Subscript (.Name x p) b pt) (gSub to ti rSetL) := by exact fun to ti h1 h2 => pg_sub h1 h2 set_list)
    (hs : swapsWithSole [.Subscript (.Name x p) b pt] e pos.line X.env = pure false := by exact sws_ns rfl) (hw : swappedStores [.Subscript (.Name x p) b pt] e X.env = pure none := by exact ss_sub)
    (h1 : (assignEach [.Subscript (.Name x p) b pt] X.env).map (·.2) = [assign (.Subscript (.Name x p) b pt) X.env] := by rfl) : JS X (.Assign [.Subscript (.Name x p) b pt] e pos) P ρ :=
  JS.of (ps_asg pe_w (hgs _ _ (pe_var hN hv hd hcd) pe_w) hs hw h1) fun T σ D F m => he T σ _ F fun w T1 g1 r1 => by
    obtain ⟨v, q1, hl, a, vs, rfl, h2, h3, rr⟩ := F.val n _ hr
    refine ⟨_, q1, hb T1 σ _ (F.grow g1) fun u T2 g2 r2 => ?_⟩
    cases r2
    have g := g1.trans g2
    obtain ⟨j, hj, ej, q⟩ := ixN_some (n := vs.length) (i := (t : Int)) (by rw [rr.length]; exact ⟨by omega, by omega⟩)
    have et : j = t := by
      rcases q with ⟨h0, rfl⟩ | ⟨h0, rfl⟩ <;> omega
    subst et
    have h2' := g.ex _ _ h2
    have h3' := g.fi a h3 (by rw [h2]; intro z; cases z)
    refine ⟨a, _, _, j, rfl, rfl, h2', ej, ?_⟩
    have rs : RpAll X.K (T2.at l) (vs.set j w) (ds.set j d) := RpAll.set (r1.mono (g2.at l)) j (rr.mono (g.at l))
    refine m.nx _ σ (T2.put a (.lst (vs.set j w))) (g.w.trans (Gw.put g.ok h3')) ((F.grow g).chg (e1 := .own l (ds.set j d)) hr rfl q1 rfl ⟨hl, a, _, rfl, upd_same, h3', ?_⟩) h
    cases l with
    | full => exact absurd rfl hl
    | imm => exact rs
    | frs => exact rs
end
/-! ### trees: lists of ints at places of their own -/
theorem at_put {y : G} : ∀ (p q : List Nat) (t : G) {b b' : Addr} {ns ns' : List Int}, G.at p t = some (.li b ns) → G.at q t = some (.li b' ns') → p ≠ q → G.at q (G.put p y t) = some (.li b' ns')
  | [], [], _, _, _, _, _, _, _, h => absurd rfl h
  | [], j :: q, t, _, _, _, _, h1, h2, _ => by
    simp only [G.at, Option.some.injEq] at h1
    subst h1
    simp [G.at] at h2
  | i :: p, [], t, _, _, _, _, h1, h2, _ => by
    simp only [G.at, Option.some.injEq] at h2
    subst h2
    simp [G.at] at h1
  | i :: p, j :: q, .d d, _, _, _, _, h1, _, _ => by simp [G.at] at h1
  | i :: p, j :: q, .li a xs, _, _, _, _, h1, _, _ => by simp [G.at] at h1
  | i :: p, j :: q, .ls a gs, b, b', ns, ns', h1, h2, hne => by
    simp only [G.at] at h1 h2
    cases e1 : gs[i]? with
    | none => rw [e1] at h1; cases h1
    | some g1 =>
      rw [e1] at h1
      simp only [G.put, e1, G.at]
      by_cases hij : i = j
      · subst hij
        rw [e1] at h2
        rw [List.getElem?_set_self (List.getElem?_eq_some_iff.mp e1).1]
        exact at_put p q g1 h1 h2 fun z => hne (by rw [z])
      · rw [List.getElem?_set_ne hij]
        exact h2
  | i :: p, j :: q, .ob a C fs gs, b, b', ns, ns', h1, h2, hne => by
    simp only [G.at] at h1 h2
    cases e1 : gs[i]? with
    | none => rw [e1] at h1; cases h1
    | some g1 =>
      rw [e1] at h1
      simp only [G.put, e1, G.at]
      by_cases hij : i = j
      · subst hij
        rw [e1] at h2
        rw [List.getElem?_set_self (List.getElem?_eq_some_iff.mp e1).1]
        exact at_put p q g1 h1 h2 fun z => hne (by rw [z])
      · rw [List.getElem?_set_ne hij]
        exact h2
theorem bare_ils : ∀ tab : List (List Int), bareDs (tab.map D.il) = true
  | [] => rfl
  | _ :: r => by rw [List.map_cons, bareDs, bare_ils r]; rfl
end Lf

set_option Elab.async false
set_option linter.all false
set_option maxRecDepth 100000
set_option maxHeartbeats 2000000
set_option autoImplicit false
namespace Lf
open PySem L2
section
variable {X : Cx} {e a b c : Expr} {es : List Expr} {ρ ρ1 : PEnv} {d d1 d2 d3 : D} {l la lb lc : Lv} {pos p p2 : Pos} {i j k : Int} {ns ms : List Int} {ds fs : List D} {kt : Nat} {x y z : Str} {st : Stmt} {sts : List Stmt} {P : PEnds} {lo hi : Option Expr} {ol oh : Option Int}
/-- y = [..], as an own list -/
theorem js_lcO (m : Nat) {scope : Scope} {elt tg iter : Expr} {ifs : List Expr} {own : List (Str × Nat)} {l' : Lv} {Tst : D → Bool} {f : D → D} {ρd : D → PEnv} {py : Pos} {spos : Pos} (hi : JI X tg iter l ρ ds)
    (hg : ∀ d, d ∈ ds → ∀ s H C cl fp, JGb (Blk X s H scope C cl fp) tg l d (own.map (·.2)) (wipeL ρ (own.map (·.2))) (ρd d))
    (ht : ∀ d, d ∈ ds → ∀ s H C cl fp, JTs (Blk X s H scope C cl fp) ifs (ρd d) (Tst d))
    (he : ∀ d, d ∈ ds → Tst d = true → ∀ s H C cl fp, JE (Blk X s H scope C cl fp) l' elt (ρd d) (f d)) (h : P.nx (ρ.set m (some (.own l' ((ds.filter Tst).map f))))) (hN : X.N.Nodup) (ok : BlkOk X.N X.env.scope scope own) (hz : ds.length ≤ 100000)
    (hy : X.N[m]? = some y := by rfl) (hyl : X.env.scope.names.lookup y = some .local := by rfl) (hsw : swapsWith (.ListComp elt [⟨tg, iter, ifs, 0⟩] scope pos) (some (.Name y py)) spos.line X.env = pure true := by exact sw_true rfl rfl rfl (by decide +kernel))
    (hl' : Lv.le l' .imm = true := by rfl) (hc : X.calm = true := by rfl) (hs : ∀ x, foldedSetIterable iter X.env x = pure x := by exact fs_ns rfl) : JS X (.Assign [.Name y py] (.ListComp elt [⟨tg, iter, ifs, 0⟩] scope pos) spos) P ρ :=
  js_setLcAny m (l' := l') (f := f) hi hg ht he hN ok hz (fun T σ a vs T0 F g h0 hi hh r => by
    refine ⟨T, _, rfl, g.w, (F.grow g).setOwn (e := .own l' _) ⟨fun z => ?_, a, vs, rfl, hh, hi, r⟩ (F.fresh h0), h⟩
    subst z
    cases hl') hy hyl hsw hl' hc hs
theorem cutL_map {α β : Type} (g : α → β) (xs : List α) (lo hi : Option Int) : cutL (xs.map g) lo hi = (cutL xs lo hi).map g := by
  unfold cutL
  rw [List.length_map, List.map_take, List.map_drop]
end
end Lf

set_option Elab.async false
set_option linter.all false
set_option maxRecDepth 100000
set_option maxHeartbeats 2000000
set_option autoImplicit false
/-! M1: places at which rows stand, in plain Lean. -/
namespace M1
open Lf (gI cutL)
/-- the earliest places from p on -/
def eF (p : Int) : List Int → List Int → List Int
  | [], _ => []
  | _ :: _, [] => []
  | r :: rs, o :: os => if o = r then p :: eF (p + 1) rs os else eF (p + 1) rs (o :: os)
def risF (last many : Int) : List Int → Bool
  | [] => true
  | p :: r => decide (last < p ∧ p < many) && risF p many r
def stdF (row ps os : List Int) : Bool := risF (-1) row.length ps && (decide (ps.length = os.length) && decide (ps.map (gI row) = os))
def lsF (row : List Int) (last : Int) : List Int → List Int → Bool
  | p :: ps, o :: os => decide (last < p ∧ p < row.length) && decide (gI row p = o) && lsF row p ps os
  | _, _ => true
theorem lsF_eq (row : List Int) : ∀ (last : Int) (ps os : List Int), ps.length = os.length → lsF row last ps os = (risF last row.length ps && decide (ps.map (gI row) = os))
  | _, [], [], _ => by simp [lsF, risF]
  | last, p :: ps, o :: os, h => by
    rw [lsF, risF, lsF_eq row p ps os (Nat.succ.inj h), List.map_cons]
    by_cases h1 : last < p ∧ p < row.length
    · by_cases h2 : gI row p = o
      · simp [h1, h2]
      · simp [h1, h2]
    · simp [h1]
  | _, [], _ :: _, h => by cases h
  | _, _ :: _, [], h => by cases h
/-- the gaps of the first signs: om the sign that stands nowhere behind -/
def gapF (row : List Int) (om : Int) (begin : Int) : List Int → Bool
  | [] => !decide (om ∈ cutL row (some begin) none)
  | p :: r => !decide (gI row p ∈ cutL row (some begin) (some p)) && gapF row om (p + 1) r
def shF (row ps os : List Int) : Bool := decide (ps.length < os.length) && (stdF row ps (os.take ps.length) && gapF row (gI os ps.length) 0 ps)
/-- the signs that are left when a row told backwards is looked through -/
def lF : List Int → List Int → List Int
  | [], os => os
  | _ :: _, [] => []
  | r :: rs, o :: os => if o = r then lF rs os else lF rs (o :: os)
def isLeft (row os : List Int) : Bool := decide (lF row.reverse os.reverse = [])
theorem lF_nil : ∀ rs : List Int, lF rs [] = []
  | [] => rfl
  | _ :: _ => rfl
theorem eF_nil (p : Int) : ∀ rs : List Int, eF p rs [] = []
  | [] => rfl
  | _ :: _ => rfl
theorem lF_sub : ∀ (rs os : List Int), lF rs os = [] ↔ List.Sublist os rs
  | [], os => by
    show os = [] ↔ _
    constructor
    · intro h; subst h; exact List.Sublist.refl _
    · intro h; exact List.eq_nil_of_length_eq_zero (Nat.le_zero.mp h.length_le)
  | r :: rs, [] => by
    rw [lF_nil]
    exact ⟨fun _ => List.nil_sublist _, fun _ => rfl⟩
  | r :: rs, o :: os => by
    show (if o = r then lF rs os else lF rs (o :: os)) = [] ↔ _
    by_cases h : o = r
    · subst h
      rw [if_pos rfl, lF_sub rs os, List.cons_sublist_cons]
    · rw [if_neg h, lF_sub rs (o :: os)]
      exact ⟨fun z => z.cons _, fun z => by
        cases z with
        | cons _ z => exact z
        | cons_cons _ z => exact absurd rfl h⟩
theorem eF_sub : ∀ (p : Int) (rs os : List Int), (eF p rs os).length = os.length ↔ List.Sublist os rs
  | p, [], os => by
    show 0 = os.length ↔ _
    constructor
    · intro h
      rw [List.eq_nil_of_length_eq_zero h.symm]
      exact List.Sublist.refl _
    · intro h
      have := h.length_le
      rw [List.length_nil] at this
      omega
  | p, r :: rs, [] => by
    rw [eF_nil]
    exact ⟨fun _ => List.nil_sublist _, fun _ => rfl⟩
  | p, r :: rs, o :: os => by
    show (if o = r then p :: eF (p + 1) rs os else eF (p + 1) rs (o :: os)).length = _ ↔ _
    by_cases h : o = r
    · subst h
      rw [if_pos rfl, List.cons_sublist_cons, ← eF_sub (p + 1) rs os, List.length_cons, List.length_cons]
      omega
    · rw [if_neg h, eF_sub (p + 1) rs (o :: os)]
      exact ⟨fun z => z.cons _, fun z => by
        cases z with
        | cons _ z => exact z
        | cons_cons _ z => exact absurd rfl h⟩
theorem isLeft_sub (row os : List Int) : isLeft row os = decide (os.Sublist row) := by
  unfold isLeft
  apply decide_eq_decide.mpr
  rw [lF_sub]
  exact List.reverse_sublist
theorem isLeft_eF (row os : List Int) : isLeft row os = decide ((eF 0 row os).length = os.length) := by
  rw [isLeft_sub]
  exact decide_eq_decide.mpr (eF_sub 0 row os).symm
theorem gI_nat (xs : List Int) (n : Nat) : gI xs (n : Int) = xs.getD n 0 := by
  unfold gI
  rw [if_pos (by omega), Int.toNat_natCast]
theorem eF_len : ∀ (p : Int) (rs os : List Int), (eF p rs os).length ≤ os.length
  | p, [], os => Nat.zero_le _
  | p, r :: rs, [] => by rw [eF_nil]; exact Nat.le_refl _
  | p, r :: rs, o :: os => by
    show (if o = r then p :: eF (p + 1) rs os else eF (p + 1) rs (o :: os)).length ≤ _
    have h1 := eF_len (p + 1) rs os
    have h2 := eF_len (p + 1) rs (o :: os)
    split
    · rw [List.length_cons, List.length_cons]; omega
    · exact h2
theorem eF_len2 : ∀ (p : Int) (rs os : List Int), (eF p rs os).length ≤ rs.length
  | p, [], os => Nat.zero_le _
  | p, r :: rs, [] => by rw [eF_nil]; exact Nat.zero_le _
  | p, r :: rs, o :: os => by
    show (if o = r then p :: eF (p + 1) rs os else eF (p + 1) rs (o :: os)).length ≤ _
    have h1 := eF_len2 (p + 1) rs os
    have h2 := eF_len2 (p + 1) rs (o :: os)
    split
    · rw [List.length_cons, List.length_cons]; omega
    · rw [List.length_cons]; omega
theorem risF_weak (many : Int) : ∀ (ps : List Int) (l l' : Int), l' ≤ l → risF l many ps = true → risF l' many ps = true
  | [], _, _, _, _ => rfl
  | p :: r, l, l', h, e => by
    rw [risF, Bool.and_eq_true, decide_eq_true_eq] at e ⊢
    exact ⟨⟨by omega, e.1.2⟩, e.2⟩
/-- what the earliest places are: rs is the row behind pre, no sign of the gap that begins at b is the next one -/
theorem eF_all : ∀ (rs pre os : List Int) (b : Nat), b ≤ pre.length → (∀ o, os.head? = some o → o ∉ pre.drop b) →
    risF ((b : Int) - 1) (pre ++ rs).length (eF pre.length rs os) = true ∧ (eF pre.length rs os).map (gI (pre ++ rs)) = os.take (eF pre.length rs os).length ∧
    ((eF pre.length rs os).length < os.length → gapF (pre ++ rs) (os.getD (eF pre.length rs os).length 0) b (eF pre.length rs os) = true)
  | [], pre, os, b, hb, hn => by
    refine ⟨rfl, rfl, fun h => ?_⟩
    cases os with
    | nil => cases h
    | cons o os =>
      show (!decide (o ∈ cutL (pre ++ []) (some (b : Int)) none)) = true
      rw [Lf.cutL_from _ (by omega), Int.toNat_natCast, List.append_nil, decide_eq_false (hn o rfl)]
      rfl
  | r :: rs, pre, [], b, hb, hn => by
    rw [eF_nil]
    exact ⟨rfl, rfl, fun h => absurd h (by simp)⟩
  | r :: rs, pre, o :: os, b, hb, hn => by
    have e1 : pre ++ r :: rs = (pre ++ [r]) ++ rs := by simp
    have el : ((pre.length : Nat) : Int) + 1 = (((pre ++ [r]).length : Nat) : Int) := by rw [List.length_append, List.length_singleton]; omega
    have hlt : pre.length < (pre ++ r :: rs).length := by rw [List.length_append, List.length_cons]; omega
    have hg : gI (pre ++ r :: rs) (pre.length : Nat) = r := by
      rw [gI_nat, List.getD_eq_getElem?_getD, List.getElem?_append_right (Nat.le_refl _), Nat.sub_self]
      rfl
    by_cases h : o = r
    · subst h
      have ih := eF_all rs (pre ++ [o]) os (pre ++ [o]).length (Nat.le_refl _) (fun o' _ => by rw [List.drop_length]; exact List.not_mem_nil)
      rw [← e1] at ih
      have ee : eF (pre.length : Nat) (o :: rs) (o :: os) = (pre.length : Int) :: eF (pre ++ [o]).length rs os := by
        show (if o = o then (pre.length : Int) :: eF ((pre.length : Int) + 1) rs os else _) = _
        rw [if_pos rfl, el]
      rw [ee]
      obtain ⟨i1, i2, i3⟩ := ih
      refine ⟨?_, ?_, fun hl => ?_⟩
      · rw [risF, Bool.and_eq_true, decide_eq_true_eq]
        refine ⟨⟨by omega, by omega⟩, ?_⟩
        have q : (((pre ++ [o]).length : Nat) : Int) - 1 = (pre.length : Int) := by omega
        rw [q] at i1
        exact i1
      · rw [List.map_cons, List.length_cons, List.take_succ_cons, i2, hg]
      · rw [List.length_cons] at hl ⊢
        rw [List.length_cons] at hl
        rw [gapF, List.getD_cons_succ, hg, el, i3 (by omega), Bool.and_true]
        have : cutL (pre ++ o :: rs) (some (b : Int)) (some ((pre.length : Nat) : Int)) = pre.drop b := by
          rw [Lf.cutL_mid _ (by omega) (by omega), Int.toNat_natCast, Int.toNat_natCast, List.drop_append_of_le_length hb]
          rw [List.take_append_of_le_length (by rw [List.length_drop]; omega), List.take_of_length_le (by rw [List.length_drop]; omega)]
        rw [this, decide_eq_false (hn o rfl)]
        rfl
    · have ih := eF_all rs (pre ++ [r]) (o :: os) b (by rw [List.length_append]; omega) (fun o' ho' => by
        cases ho'
        rw [List.drop_append_of_le_length hb, List.mem_append]
        rintro (z | z)
        · exact hn o rfl z
        · exact h (List.mem_singleton.mp z))
      rw [← e1] at ih
      have ee : eF (pre.length : Nat) (r :: rs) (o :: os) = eF (pre ++ [r]).length rs (o :: os) := by
        show (if o = r then (pre.length : Int) :: eF ((pre.length : Int) + 1) rs os else eF ((pre.length : Int) + 1) rs (o :: os)) = _
        rw [if_neg h, el]
      rw [ee]
      exact ih
theorem eF_std (row os : List Int) : stdF row (eF 0 row os) (os.take (eF 0 row os).length) = true := by
  obtain ⟨h1, h2, _⟩ := eF_all row [] os 0 (Nat.le_refl _) (fun o _ => List.not_mem_nil)
  unfold stdF
  have h1' : risF (-1) (row.length : Nat) (eF 0 row os) = true := h1
  have h2' : (eF 0 row os).map (gI row) = os.take (eF 0 row os).length := h2
  have h3 : (eF 0 row os).length = (os.take (eF 0 row os).length).length := by
    rw [List.length_take, Nat.min_eq_left (eF_len 0 row os)]
  rw [h1', decide_eq_true h3, decide_eq_true h2']
  rfl
theorem eF_left {row os : List Int} (h : (eF 0 row os).length = os.length) : stdF row (eF 0 row os) os = true := by
  have := eF_std row os
  rw [h, List.take_length] at this
  exact this
theorem eF_short {row os : List Int} (h : ¬ (eF 0 row os).length = os.length) : shF row (eF 0 row os) os = true := by
  have hl := eF_len 0 row os
  unfold shF
  rw [decide_eq_true (show (eF 0 row os).length < os.length by omega), eF_std]
  obtain ⟨_, _, h3⟩ := eF_all row [] os 0 (Nat.le_refl _) (fun o _ => List.not_mem_nil)
  rw [gI_nat]
  have := h3 (by show (eF 0 row os).length < os.length; omega)
  rw [show gapF row (os.getD (eF 0 row os).length 0) 0 (eF 0 row os) = true from this]
  rfl
/-- rising places, one more behind the row -/
theorem risF_more (many : Int) : ∀ (ps : List Int) (l : Int), risF l many (ps ++ [many]) = false
  | [], l => by
    show (decide (l < many ∧ many < many) && _) = false
    rw [decide_eq_false (by omega)]
    rfl
  | p :: r, l => by
    rw [List.cons_append, risF, risF_more many r p, Bool.and_false]
theorem std_more (row ps os : List Int) : stdF row (ps ++ [(row.length : Int)]) os = false := by
  unfold stdF
  rw [risF_more, Bool.false_and]
theorem sh_more (row ps os : List Int) : shF row (ps ++ [(row.length : Int)]) os = false := by
  unfold shF
  rw [std_more, Bool.false_and, Bool.and_false]
theorem risF_len (many : Int) : ∀ (ps : List Int) (l : Int), -1 ≤ l → l < many → risF l many ps = true → (ps.length : Int) ≤ many - 1 - l
  | [], l, _, _, _ => by simp; omega
  | p :: r, l, h0, h1, e => by
    rw [risF, Bool.and_eq_true, decide_eq_true_eq] at e
    have := risF_len many r p (by omega) e.1.2 e.2
    rw [List.length_cons]
    omega
theorem risF_mem (many : Int) : ∀ (ps : List Int) (l : Int), -1 ≤ l → risF l many ps = true → ∀ p, p ∈ ps → 0 ≤ p ∧ p < many
  | [], _, _, _, p, m => by cases m
  | q :: r, l, h0, e, p, m => by
    rw [risF, Bool.and_eq_true, decide_eq_true_eq] at e
    rcases List.mem_cons.mp m with rfl | m
    · exact ⟨by omega, e.1.2⟩
    · exact risF_mem many r q (by omega) e.2 p m
/-- the law's own look at gaps: the sign of each place by the other row -/
def gap2 (row os : List Int) (at_ : Int) (begin : Int) : List Int → Bool
  | [] => !decide (gI os at_ ∈ cutL row (some begin) (some row.length))
  | p :: r => !decide (gI os at_ ∈ cutL row (some begin) (some p)) && gap2 row os (at_ + 1) (p + 1) r
theorem cut_end (row : List Int) {b : Int} (h : 0 ≤ b) : cutL row (some b) (some row.length) = cutL row (some b) none := by
  rw [Lf.cutL_mid _ h (by omega), Lf.cutL_from _ h, Int.toNat_natCast]
  rw [List.take_of_length_le (by rw [List.length_drop]; omega)]
theorem gap2_eq (row os : List Int) : ∀ (ps : List Int) (i : Nat) (b : Int), 0 ≤ b → (∀ p, p ∈ ps → 0 ≤ p) → ps.map (gI row) = (os.drop i).take ps.length → i + ps.length < os.length →
    gap2 row os i b ps = gapF row (gI os (i + ps.length : Nat)) b ps
  | [], i, b, hb, _, _, _ => by
    rw [gap2, gapF, cut_end row hb]
    rfl
  | p :: r, i, b, hb, hp, e, hl => by
    rw [List.length_cons] at hl e
    have hi : i < os.length := by omega
    have ed : os.drop i = os[i] :: os.drop (i + 1) := List.drop_eq_getElem_cons hi
    rw [ed, List.map_cons, List.take_succ_cons] at e
    obtain ⟨e1, e2⟩ := List.cons.inj e
    have hg : gI os (i : Int) = gI row p := by
      rw [gI_nat, List.getD_eq_getElem?_getD, List.getElem?_eq_getElem hi, e1]
      rfl
    have ih := gap2_eq row os r (i + 1) (p + 1) (by have := hp p (List.mem_cons_self ..); omega) (fun q m => hp q (List.mem_cons_of_mem _ m)) e2 (by omega)
    rw [gap2, gapF, hg, List.length_cons]
    have e3 : (i : Int) + 1 = ((i + 1 : Nat) : Int) := by omega
    have e4 : i + (r.length + 1) = i + 1 + r.length := by omega
    rw [e3, ih, e4]
end M1

set_option Elab.async false
set_option linter.all false
set_option maxRecDepth 100000
set_option maxHeartbeats 2000000
set_option autoImplicit false
/-! M2: bounds of what two rows have in common, in plain Lean. -/
namespace M2
open Lf (gI cutL) 
open M1
noncomputable def dec (p : Prop) : Bool := @decide p (Classical.propDecidable p)
theorem dec_t {p : Prop} (h : p) : dec p = true := @decide_eq_true p (Classical.propDecidable p) h
theorem dec_f {p : Prop} (h : ¬ p) : dec p = false := @decide_eq_false p (Classical.propDecidable p) h
theorem dec_iff {p q : Prop} (h : p ↔ q) : dec p = dec q := by rw [propext h]
theorem dec_dec {p : Prop} [i : Decidable p] : dec p = decide p := by
  by_cases h : p
  · rw [dec_t h, decide_eq_true h]
  · rw [dec_f h, decide_eq_false h]
theorem of_dec {p : Prop} (h : dec p = true) : p := by
  by_cases q : p
  · exact q
  · rw [dec_f q] at h; cases h
theorem of_decf {p : Prop} (h : dec p = false) : ¬ p := fun q => by rw [dec_t q] at h; cases h
def mx (a b : Int) : Int := if b > a then b else a
theorem mx_le (a b : Int) : a ≤ mx a b ∧ b ≤ mx a b ∧ (mx a b = a ∨ mx a b = b) := by
  unfold mx
  split <;> omega
def tbS (sign : Int) (other : List Int) (ahead : Nat → Int) : Nat → Int
  | 0 => 0
  | j + 1 => if sign = other.getD j 0 then ahead j + 1 else mx (tbS sign other ahead j) (ahead (j + 1))
def tb (one other : List Int) : Nat → Nat → Int
  | 0 => fun _ => 0
  | i + 1 => tbS (one.getD i 0) other (tb one other i)
theorem tb_0 (one other : List Int) : ∀ i, tb one other i 0 = 0
  | 0 => rfl
  | _ + 1 => rfl
theorem tb_s (one other : List Int) (i j : Nat) : tb one other (i + 1) (j + 1) = if one.getD i 0 = other.getD j 0 then tb one other i j + 1 else mx (tb one other (i + 1) j) (tb one other i (j + 1)) := rfl
theorem tb_step (one other : List Int) : ∀ i, (∀ j, tb one other i j ≤ tb one other i (j + 1) ∧ tb one other i (j + 1) ≤ tb one other i j + 1) ∧ (∀ j, tb one other i j ≤ tb one other (i + 1) j ∧ tb one other (i + 1) j ≤ tb one other i j + 1) := by
  have key : ∀ i, (∀ j, tb one other i j ≤ tb one other i (j + 1) ∧ tb one other i (j + 1) ≤ tb one other i j + 1) → (∀ j, tb one other i j ≤ tb one other (i + 1) j ∧ tb one other (i + 1) j ≤ tb one other i j + 1) := by
    intro i A j
    induction j with
    | zero => rw [tb_0, tb_0]; omega
    | succ j ih =>
      have a := A j
      rw [tb_s]
      split
      · omega
      · have := mx_le (tb one other (i + 1) j) (tb one other i (j + 1))
        omega
  intro i
  induction i with
  | zero =>
    have A : ∀ j, tb one other 0 j ≤ tb one other 0 (j + 1) ∧ tb one other 0 (j + 1) ≤ tb one other 0 j + 1 := fun j => by
      show (0 : Int) ≤ 0 ∧ (0 : Int) ≤ 0 + 1
      omega
    exact ⟨A, key 0 A⟩
  | succ i ih =>
    obtain ⟨A, B⟩ := ih
    have A' : ∀ j, tb one other (i + 1) j ≤ tb one other (i + 1) (j + 1) ∧ tb one other (i + 1) (j + 1) ≤ tb one other (i + 1) j + 1 := fun j => by
      have a := A j
      have b := B j
      rw [tb_s]
      split
      · omega
      · have := mx_le (tb one other (i + 1) j) (tb one other i (j + 1))
        omega
    exact ⟨A', key (i + 1) A'⟩
theorem tb_nonneg (one other : List Int) (i : Nat) : ∀ j, 0 ≤ tb one other i j := by
  intro j
  induction j with
  | zero => rw [tb_0]; omega
  | succ j ih => have := (tb_step one other i).1 j; omega
theorem tb_mono (one other : List Int) (i : Nat) : ∀ j k, tb one other i j ≤ tb one other i (j + k)
  | j, 0 => Int.le_refl _
  | j, k + 1 => by have := tb_mono one other i j k; have := (tb_step one other i).1 (j + k); rw [← Nat.add_assoc]; omega
theorem tb_pos {one other : List Int} {i j : Nat} (h : 0 < tb one other i j) : 0 < i ∧ 0 < j := by
  cases i with
  | zero => exact absurd h (by show ¬ (0 : Int) < 0; omega)
  | succ i =>
    cases j with
    | zero => rw [tb_0] at h; omega
    | succ j => omega
def rowF (f : Nat → Int) (m : Nat) : List Int := (List.range (m + 1)).map f
theorem rowF_len (f : Nat → Int) (m : Nat) : (rowF f m).length = m + 1 := by unfold rowF; simp
theorem rowF_at {f : Nat → Int} {m j : Nat} (h : j ≤ m) : (rowF f m).getD j 0 = f j := by
  unfold rowF
  rw [List.getD_eq_getElem?_getD, List.getElem?_map, List.getElem?_range (by omega)]
  rfl
def tabF (one other : List Int) : List (List Int) := (List.range (one.length + 1)).map fun i => rowF (tb one other i) other.length
theorem tabF_len (one other : List Int) : (tabF one other).length = one.length + 1 := by unfold tabF; simp
def g (tab : List (List Int)) (i j : Nat) : Int := (tab.getD i []).getD j 0
theorem tabF_row {one other : List Int} {i : Nat} (h : i ≤ one.length) : (tabF one other).getD i [] = rowF (tb one other i) other.length := by
  unfold tabF
  rw [List.getD_eq_getElem?_getD, List.getElem?_map, List.getElem?_range (by omega)]
  rfl
theorem g_tabF {one other : List Int} {i j : Nat} (h : i ≤ one.length) (hj : j ≤ other.length) : g (tabF one other) i j = tb one other i j := by
  unfold g
  rw [tabF_row h, rowF_at hj]
/-- what is asked of a cell -/
structure CellOk (one other : List Int) (tab : List (List Int)) (i j : Nat) : Prop where
  z : 0 ≤ g tab i j
  u : 0 < i → g tab (i - 1) j ≤ g tab i j
  l : 0 < j → g tab i (j - 1) ≤ g tab i j
  d : 0 < i → 0 < j → one.getD (i - 1) 0 = other.getD (j - 1) 0 → g tab (i - 1) (j - 1) < g tab i j
structure TabOk (one other : List Int) (tab : List (List Int)) : Prop where
  n : tab.length = one.length + 1
  m : ∀ i, i ≤ one.length → (tab.getD i []).length = other.length + 1
  c : ∀ i j, i ≤ one.length → j ≤ other.length → CellOk one other tab i j
theorem tabOk_tabF (one other : List Int) : TabOk one other (tabF one other) := by
  refine ⟨tabF_len one other, fun i hi => by rw [tabF_row hi, rowF_len], fun i j hi hj => ?_⟩
  have g0 := g_tabF (one := one) (other := other) hi hj
  refine ⟨by rw [g0]; exact tb_nonneg one other i j, fun h => ?_, fun h => ?_, fun h1 h2 e => ?_⟩
  · rw [g0, g_tabF (by omega) hj]
    have := ((tb_step one other (i - 1)).2 j).1
    rw [show i - 1 + 1 = i by omega] at this
    exact this
  · rw [g0, g_tabF hi (by omega)]
    have := ((tb_step one other i).1 (j - 1)).1
    rw [show j - 1 + 1 = j by omega] at this
    exact this
  · rw [g0, g_tabF (by omega) (by omega)]
    have := tb_s one other (i - 1) (j - 1)
    rw [if_pos e, show i - 1 + 1 = i by omega, show j - 1 + 1 = j by omega] at this
    omega
/-- the places found from behind -/
def cpF (one other : List Int) : Nat → Nat → Nat → List Int × List Int
  | 0, _, _ => ([], [])
  | f + 1, i, j => if 0 < tb one other i j then
      (if one.getD (i - 1) 0 = other.getD (j - 1) 0 then ((cpF one other f (i - 1) (j - 1)).1 ++ [((i - 1 : Nat) : Int)], (cpF one other f (i - 1) (j - 1)).2 ++ [((j - 1 : Nat) : Int)])
      else if tb one other i (j - 1) ≤ tb one other (i - 1) j then cpF one other f (i - 1) j else cpF one other f i (j - 1))
    else ([], [])
theorem risF_snoc {M m : Int} (h2 : m < M) : ∀ (xs : List Int) (l : Int), l < m → risF l m xs = true → risF l M (xs ++ [m]) = true
  | [], l, h, _ => by
    rw [List.nil_append, risF, risF, Bool.and_true]
    exact decide_eq_true ⟨h, h2⟩
  | p :: r, l, h, e => by
    rw [risF, Bool.and_eq_true, decide_eq_true_eq] at e
    rw [List.cons_append, risF, Bool.and_eq_true, decide_eq_true_eq]
    exact ⟨⟨e.1.1, by omega⟩, risF_snoc h2 r p e.1.2 e.2⟩
theorem risF_up {M m : Int} (h : m ≤ M) : ∀ (xs : List Int) (l : Int), risF l m xs = true → risF l M xs = true
  | [], _, _ => rfl
  | p :: r, l, e => by
    rw [risF, Bool.and_eq_true, decide_eq_true_eq] at e ⊢
    exact ⟨⟨e.1.1, by omega⟩, risF_up h r p e.2⟩
theorem cp_ok (one other : List Int) : ∀ (f i j : Nat), i + j ≤ f → i ≤ one.length → j ≤ other.length →
    ((cpF one other f i j).1.length : Int) = tb one other i j ∧ ((cpF one other f i j).2.length : Int) = tb one other i j ∧
    (cpF one other f i j).1.map (gI one) = (cpF one other f i j).2.map (gI other) ∧ risF (-1) i (cpF one other f i j).1 = true ∧ risF (-1) j (cpF one other f i j).2 = true
  | 0, i, j, h, _, _ => by
    have : i = 0 := by omega
    subst this
    exact ⟨rfl, rfl, rfl, rfl, rfl⟩
  | f + 1, i, j, h, hi, hj => by
    rw [cpF]
    by_cases hp : 0 < tb one other i j
    · obtain ⟨i0, j0⟩ := tb_pos hp
      rw [if_pos hp]
      have e := tb_s one other (i - 1) (j - 1)
      rw [show i - 1 + 1 = i by omega, show j - 1 + 1 = j by omega] at e
      by_cases he : one.getD (i - 1) 0 = other.getD (j - 1) 0
      · rw [if_pos he]
        rw [if_pos he] at e
        obtain ⟨h1, h2, h3, h4, h5⟩ := cp_ok one other f (i - 1) (j - 1) (by omega) (by omega) (by omega)
        refine ⟨by rw [List.length_append, List.length_singleton]; omega, by rw [List.length_append, List.length_singleton]; omega, ?_, risF_snoc (by omega) _ _ (by omega) h4, risF_snoc (by omega) _ _ (by omega) h5⟩
        rw [List.map_append, List.map_append, h3]
        congr 1
        rw [List.map_singleton, List.map_singleton, gI_nat, gI_nat, he]
      · rw [if_neg he]
        rw [if_neg he] at e
        have hm := mx_le (tb one other i (j - 1)) (tb one other (i - 1) j)
        have hmx : mx (tb one other i (j - 1)) (tb one other (i - 1) j) = if tb one other (i - 1) j > tb one other i (j - 1) then tb one other (i - 1) j else tb one other i (j - 1) := rfl
        by_cases hc : tb one other i (j - 1) ≤ tb one other (i - 1) j
        · rw [if_pos hc]
          obtain ⟨h1, h2, h3, h4, h5⟩ := cp_ok one other f (i - 1) j (by omega) (by omega) (by omega)
          have : tb one other i j = tb one other (i - 1) j := by omega
          exact ⟨by omega, by omega, h3, risF_up (by omega) _ _ h4, h5⟩
        · rw [if_neg hc]
          obtain ⟨h1, h2, h3, h4, h5⟩ := cp_ok one other f i (j - 1) (by omega) (by omega) (by omega)
          have : tb one other i j = tb one other i (j - 1) := by omega
          exact ⟨by omega, by omega, h3, h4, risF_up (by omega) _ _ h5⟩
    · rw [if_neg hp]
      have := tb_nonneg one other i j
      exact ⟨by show (0 : Int) = _; omega, by show (0 : Int) = _; omega, rfl, rfl, rfl⟩
theorem tb_self (one : List Int) : ∀ i, tb one one i i = i
  | 0 => rfl
  | i + 1 => by rw [tb_s, if_pos rfl, tb_self one i]; omega
theorem cp_self (one : List Int) : ∀ (f i : Nat), i + i ≤ f → (cpF one one f i i).1 = (List.range i).map fun k : Nat => (0 : Int) + (k : Int)
  | 0, i, h => by
    have : i = 0 := by omega
    subst this
    rfl
  | f + 1, 0, h => by
    rw [cpF, if_neg (by rw [tb_0]; omega)]
    rfl
  | f + 1, i + 1, h => by
    rw [cpF, if_pos (by rw [tb_self]; omega), if_pos rfl]
    show (cpF one one f i i).1 ++ [((i : Nat) : Int)] = _
    rw [cp_self one f i (by omega), List.range_succ, List.map_append]
    congr 1
    show [(i : Int)] = [0 + (i : Int)]
    rw [Int.zero_add]
def places (one other : List Int) : List Int × List Int := cpF one other (one.length + other.length) one.length other.length
structure LongOk (one other mine theirs : List Int) (tab : List (List Int)) : Prop where
  r1 : risF (-1) one.length mine = true
  r2 : risF (-1) other.length theirs = true
  e : mine.map (gI one) = theirs.map (gI other)
  t : TabOk one other tab
  k : g tab one.length other.length = mine.length
theorem longOk (one other : List Int) : LongOk one other (places one other).1 (places one other).2 (tabF one other) := by
  obtain ⟨h1, h2, h3, h4, h5⟩ := cp_ok one other (one.length + other.length) one.length other.length (Nat.le_refl _) (Nat.le_refl _) (Nat.le_refl _)
  exact ⟨h4, h5, h3, tabOk_tabF one other, by rw [g_tabF (Nat.le_refl _) (Nat.le_refl _)]; exact h1.symm⟩
end M2

set_option Elab.async false
set_option linter.all false
set_option maxRecDepth 100000
set_option maxHeartbeats 2000000
set_option autoImplicit false
/-! M3: a row of which two are left, in plain Lean. -/
namespace M3
open Lf (gI cutL rngI)
open M1 M2
noncomputable def bothF (one other row mine theirs : List Int) (tab : List (List Int)) : Bool :=
  stdF row mine one && (stdF row theirs other && (dec (TabOk one other tab) && decide ((row.length : Int) + g tab one.length other.length = (one.length : Int) + (other.length : Int))))
/-- places at which a row stands in one that grows -/
structure PO (row ps os : List Int) : Prop where
  r : risF (-1) row.length ps = true
  e : ps.map (gI row) = os
theorem gI_grow {row : List Int} {x p : Int} (h : 0 ≤ p) (h2 : p < row.length) : gI (row ++ [x]) p = gI row p := by
  obtain ⟨n, rfl⟩ : ∃ n : Nat, p = (n : Int) := ⟨p.toNat, by omega⟩
  rw [gI_nat, gI_nat, List.getD_eq_getElem?_getD, List.getD_eq_getElem?_getD, List.getElem?_append_left (by omega)]
theorem risF_bd (many : Int) : ∀ (ps : List Int) (l : Int), -1 ≤ l → risF l many ps = true → ∀ p, p ∈ ps → 0 ≤ p ∧ p < many
  | [], _, _, _, p, hp => by cases hp
  | x :: r, l, hl, h, p, hp => by
    rw [risF, Bool.and_eq_true, decide_eq_true_eq] at h
    rcases List.mem_cons.mp hp with rfl | hp
    · exact ⟨by omega, h.1.2⟩
    · exact risF_bd many r x (by omega) h.2 p hp
theorem PO.nil : PO [] [] [] := ⟨rfl, rfl⟩
theorem PO.grow {row ps os : List Int} (x : Int) (h : PO row ps os) : PO (row ++ [x]) ps os := by
  refine ⟨risF_up (by rw [List.length_append, List.length_singleton]; omega) ps _ h.r, ?_⟩
  rw [← h.e]
  refine List.map_congr_left fun p hp => ?_
  obtain ⟨h1, h2⟩ := risF_bd _ ps _ (by omega) h.r p hp
  exact gI_grow h1 h2
theorem PO.snoc {row ps os : List Int} (x : Int) (h : PO row ps os) : PO (row ++ [x]) (ps ++ [(row.length : Int)]) (os ++ [x]) := by
  refine ⟨risF_snoc (by rw [List.length_append, List.length_singleton]; omega) ps _ (by omega) h.r, ?_⟩
  rw [List.map_append, (h.grow x).e, List.map_singleton, gI_nat, List.getD_eq_getElem?_getD, List.getElem?_append_right (Nat.le_refl _), Nat.sub_self]
  rfl
theorem PO.len {row ps os : List Int} (h : PO row ps os) : ps.length = os.length := by rw [← h.e, List.length_map]
theorem PO.std {row ps os : List Int} (h : PO row ps os) : stdF row ps os = true := by
  unfold stdF
  rw [h.r, decide_eq_true h.len, decide_eq_true h.e]
  rfl
theorem take_snoc {xs : List Int} {i : Nat} (h : i < xs.length) : xs.take (i + 1) = xs.take i ++ [gI xs (i : Int)] := by
  rw [List.take_add_one, List.getElem?_eq_getElem h, gI_nat, List.getD_eq_getElem?_getD, List.getElem?_eq_getElem h]
  rfl
/-- the pairs to come -/
inductive Ch (one other : List Int) : Nat → Nat → List (Int × Int) → Prop
  | last {i j : Nat} : i ≤ one.length → j ≤ other.length → Ch one other i j [((one.length : Int), (other.length : Int))]
  | cons {i j p a : Nat} {r : List (Int × Int)} : i ≤ p → p < one.length → j ≤ a → a < other.length → gI one (p : Int) = gI other (a : Int) → Ch one other (p + 1) (a + 1) r → Ch one other i j (((p : Int), (a : Int)) :: r)
theorem ch_of {one other : List Int} : ∀ (mi th : List Int) (i j : Nat), i ≤ one.length → j ≤ other.length → risF ((i : Int) - 1) one.length mi = true → risF ((j : Int) - 1) other.length th = true → mi.map (gI one) = th.map (gI other) →
    Ch one other i j (mi.zip th ++ [((one.length : Int), (other.length : Int))])
  | [], _, i, j, hi, hj, _, _, _ => .last hi hj
  | _ :: _, [], i, j, hi, hj, _, _, h => by rw [List.map_cons] at h; cases h
  | p :: mi, a :: th, i, j, hi, hj, h1, h2, h => by
    rw [risF, Bool.and_eq_true, decide_eq_true_eq] at h1 h2
    rw [List.map_cons, List.map_cons] at h
    obtain ⟨e1, e2⟩ := List.cons.inj h
    obtain ⟨pn, rfl⟩ : ∃ n : Nat, p = (n : Int) := ⟨p.toNat, by omega⟩
    obtain ⟨an, rfl⟩ : ∃ n : Nat, a = (n : Int) := ⟨a.toNat, by omega⟩
    have q1 : ((pn + 1 : Nat) : Int) - 1 = (pn : Int) := by omega
    have q2 : ((an + 1 : Nat) : Int) - 1 = (an : Int) := by omega
    exact .cons (by omega) (by omega) (by omega) (by omega) e1 (ch_of mi th (pn + 1) (an + 1) (by omega) (by omega) (by rw [q1]; exact h1.2) (by rw [q2]; exact h2.2) e2)
theorem both_all {one other row fi se : List Int} {k : Nat} (h1 : PO row fi (one.take one.length)) (h2 : PO row se (other.take other.length)) (hk : row.length + k = one.length + other.length) (hg : g (tabF one other) one.length other.length = (k : Int)) : bothF one other row fi se (tabF one other) = true := by
  rw [List.take_length] at h1 h2
  unfold bothF
  rw [h1.std, h2.std, dec_t (tabOk_tabF one other), hg, decide_eq_true (show (row.length : Int) + (k : Int) = (one.length : Int) + (other.length : Int) by omega)]
  rfl
theorem std_len {row ps os : List Int} (h : stdF row ps os = true) : ps.length = os.length := by
  unfold stdF at h
  rw [Bool.and_eq_true, Bool.and_eq_true, decide_eq_true_eq] at h
  exact h.2.1
structure BothOk (one other row mine theirs : List Int) (tab : List (List Int)) : Prop where
  s1 : stdF row mine one = true
  s2 : stdF row theirs other = true
  t : TabOk one other tab
  k : (row.length : Int) + g tab one.length other.length = (one.length : Int) + (other.length : Int)
theorem both_iff {one other row mine theirs : List Int} {tab : List (List Int)} : bothF one other row mine theirs tab = true ↔ BothOk one other row mine theirs tab := by
  unfold bothF
  rw [Bool.and_eq_true, Bool.and_eq_true, Bool.and_eq_true, decide_eq_true_eq]
  exact ⟨fun h => ⟨h.1, h.2.1, of_dec h.2.2.1, h.2.2.2⟩, fun h => ⟨h.s1, h.s2, dec_t h.t, h.k⟩⟩
theorem both_no {one other row mine theirs : List Int} {tab : List (List Int)} (h : ¬ BothOk one other row mine theirs tab) : bothF one other row mine theirs tab = false := by
  cases e : bothF one other row mine theirs tab with
  | false => rfl
  | true => exact absurd (both_iff.mp e) h
end M3

set_option Elab.async false
set_option linter.all false
set_option maxRecDepth 100000
set_option maxHeartbeats 2000000
set_option autoImplicit false
/-! M5: mixings of two rows, in plain Lean. -/
namespace M5
open Lf (gI cutL rngI)
open M1 M2
abbrev Pr := Int × Int
def stp (row one other : List Int) (i j : Int) : List Pr :=
  (if i < one.length ∧ gI one i = gI row (i + j) then [(i + 1, j)] else []) ++ (if j < other.length ∧ gI other j = gI row (i + j) then [(i, j + 1)] else [])
def inb (one other : List Int) (p : Pr) : Bool := decide (0 ≤ p.1 ∧ p.1 ≤ one.length) && decide (0 ≤ p.2 ∧ p.2 ≤ other.length)
def unF (row one other : List Int) (ws : List Pr) : Bool :=
  decide (row.length = one.length + other.length) && (decide (((0 : Int), (0 : Int)) ∈ ws) && (!decide (((one.length : Int), (other.length : Int)) ∈ ws) && (ws.all (inb one other) && ws.all fun p => (stp row one other p.1 p.2).all fun q => decide (q ∈ ws))))
def restF (row ps : List Int) : List Int := ((rngI 0 row.length).filter fun k => !decide (k ∈ ps)).map (gI row)
def mxF (row one other ps : List Int) : Bool := stdF row ps one && decide (restF row ps = other)
theorem mem_stp {row one other : List Int} {i j : Int} {q : Pr} : q ∈ stp row one other i j ↔ (i < one.length ∧ gI one i = gI row (i + j) ∧ q = (i + 1, j)) ∨ (j < other.length ∧ gI other j = gI row (i + j) ∧ q = (i, j + 1)) := by
  unfold stp
  rw [List.mem_append]
  constructor
  · rintro (h | h)
    · split at h
      · rename_i c; exact .inl ⟨c.1, c.2, by simpa using h⟩
      · cases h
    · split at h
      · rename_i c; exact .inr ⟨c.1, c.2, by simpa using h⟩
      · cases h
  · rintro (⟨h1, h2, rfl⟩ | ⟨h1, h2, rfl⟩)
    · exact .inl (by rw [if_pos ⟨h1, h2⟩]; simp)
    · exact .inr (by rw [if_pos ⟨h1, h2⟩]; simp)
theorem inb_iff {one other : List Int} {p : Pr} : inb one other p = true ↔ ∃ i j : Nat, p = ((i : Int), (j : Int)) ∧ i ≤ one.length ∧ j ≤ other.length := by
  unfold inb
  rw [Bool.and_eq_true, decide_eq_true_eq, decide_eq_true_eq]
  constructor
  · rintro ⟨⟨h1, h2⟩, h3, h4⟩
    refine ⟨p.1.toNat, p.2.toNat, ?_, by omega, by omega⟩
    rw [Int.toNat_of_nonneg h1, Int.toNat_of_nonneg h3]
  · rintro ⟨i, j, rfl, h1, h2⟩
    refine ⟨⟨?_, ?_⟩, ?_, ?_⟩ <;> simp <;> omega
/-! what is a mixing -/
inductive Shuf : List Int → List Int → List Int → Prop
  | nil : Shuf [] [] []
  | l {x : Int} {r a b : List Int} : Shuf r a b → Shuf (x :: r) (x :: a) b
  | r {x : Int} {r a b : List Int} : Shuf r a b → Shuf (x :: r) a (x :: b)
theorem Shuf.len {r a b : List Int} (h : Shuf r a b) : r.length = a.length + b.length := by
  induction h with
  | nil => rfl
  | l _ ih => rw [List.length_cons, List.length_cons]; omega
  | r _ ih => rw [List.length_cons, List.length_cons]; omega
theorem Shuf.sym {r a b : List Int} (h : Shuf r a b) : Shuf r b a := by
  induction h with
  | nil => exact .nil
  | l _ ih => exact .r ih
  | r _ ih => exact .l ih
theorem Shuf.snocL {r a b : List Int} (x : Int) (h : Shuf r a b) : Shuf (r ++ [x]) (a ++ [x]) b := by
  induction h with
  | nil => exact .l .nil
  | l _ ih => exact .l ih
  | r _ ih => exact .r ih
theorem Shuf.snocR {r a b : List Int} (x : Int) (h : Shuf r a b) : Shuf (r ++ [x]) a (b ++ [x]) := (h.sym.snocL x).sym
theorem Shuf.cat : ∀ (a b : List Int), Shuf (a ++ b) a b
  | [], [] => .nil
  | [], _ :: b => .r (Shuf.cat [] b)
  | _ :: a, b => .l (Shuf.cat a b)
theorem gI_drop {xs ys : List Int} {i : Nat} {x : Int} (h : xs.drop i = x :: ys) : gI xs (i : Int) = x ∧ i < xs.length ∧ xs.drop (i + 1) = ys := by
  have hl : i < xs.length := by
    rcases Nat.lt_or_ge i xs.length with z | z
    · exact z
    · rw [List.drop_eq_nil_of_le z] at h; cases h
  rw [List.drop_eq_getElem_cons hl] at h
  obtain ⟨h1, h2⟩ := List.cons.inj h
  refine ⟨?_, hl, h2⟩
  rw [gI_nat, List.getD_eq_getElem?_getD, List.getElem?_eq_getElem hl]
  exact h1
theorem drop_gI {xs : List Int} {i : Nat} (h : i < xs.length) : xs.drop i = gI xs (i : Int) :: xs.drop (i + 1) := by
  rw [List.drop_eq_getElem_cons h, gI_nat, List.getD_eq_getElem?_getD, List.getElem?_eq_getElem h]
  rfl
theorem no_un {row one other : List Int} {ws : List Pr} (s : Shuf row one other) : unF row one other ws = false := by
  cases e : unF row one other ws with
  | false => rfl
  | true =>
    unfold unF at e
    rw [Bool.and_eq_true, Bool.and_eq_true, Bool.and_eq_true, Bool.and_eq_true, decide_eq_true_eq, decide_eq_true_eq] at e
    obtain ⟨-, h0, hn, -, hc⟩ := e
    have hn' : ((one.length : Int), (other.length : Int)) ∉ ws := by simpa using hn
    have step : ∀ p, p ∈ ws → ∀ q, q ∈ stp row one other p.1 p.2 → q ∈ ws := fun p hp q hq => of_decide_eq_true (List.all_eq_true.mp (List.all_eq_true.mp hc p hp) q hq)
    have key : ∀ {r a b : List Int}, Shuf r a b → ∀ i j : Nat, i ≤ one.length → j ≤ other.length → row.drop (i + j) = r → one.drop i = a → other.drop j = b → ((i : Int), (j : Int)) ∉ ws := by
      intro r a b s
      induction s with
      | nil =>
        intro i j hi hj _ ha hb hm
        have h1 := congrArg List.length ha
        have h2 := congrArg List.length hb
        rw [List.length_drop] at h1 h2
        have h1' : i = one.length := by simp at h1; omega
        have h2' : j = other.length := by simp at h2; omega
        subst h1' h2'
        exact hn' hm
      | l s ih =>
        intro i j hi hj hr ha hb hm
        obtain ⟨r1, r2, r3⟩ := gI_drop hr
        obtain ⟨a1, a2, a3⟩ := gI_drop ha
        refine ih (i + 1) j (by omega) hj (by rw [show i + 1 + j = i + j + 1 by omega]; exact r3) a3 hb ?_
        refine step _ hm _ (mem_stp.mpr (.inl ⟨by show (i : Int) < _; omega, ?_, ?_⟩))
        · show gI one (i : Int) = gI row ((i : Int) + (j : Int))
          rw [a1, ← Int.natCast_add, r1]
        · rfl
      | r s ih =>
        intro i j hi hj hr ha hb hm
        obtain ⟨r1, r2, r3⟩ := gI_drop hr
        obtain ⟨a1, a2, a3⟩ := gI_drop hb
        refine ih i (j + 1) hi (by omega) (by rw [show i + (j + 1) = i + j + 1 by omega]; exact r3) ha a3 ?_
        refine step _ hm _ (mem_stp.mpr (.inr ⟨by show (j : Int) < _; omega, ?_, ?_⟩))
        · show gI other (j : Int) = gI row ((i : Int) + (j : Int))
          rw [a1, ← Int.natCast_add, r1]
        · rfl
    exact absurd h0 (key s 0 0 (Nat.zero_le _) (Nat.zero_le _) rfl rfl rfl)
/-! all that is come to -/
theorem pig : ∀ (n : Nat) (xs : List Nat), xs.Nodup → (∀ x, x ∈ xs → x < n) → xs.length ≤ n
  | 0, [], _, _ => Nat.le_refl _
  | 0, x :: _, _, h => absurd (h x (List.mem_cons_self ..)) (Nat.not_lt_zero _)
  | n + 1, xs, hn, h => by
    have h1 : (xs.erase n).length ≤ n := pig n (xs.erase n) (hn.erase n) fun x hx => by
      have := h x (List.mem_of_mem_erase hx)
      have : x ≠ n := fun z => by subst z; exact (hn.mem_erase_iff.mp hx).1 rfl
      omega
    rw [List.length_erase] at h1
    split at h1 <;> omega
def code (m : Nat) (p : Pr) : Nat := p.1.toNat * (m + 1) + p.2.toNat
theorem len_in {one other : List Int} {ws : List Pr} (hn : ws.Nodup) (hb : ∀ p, p ∈ ws → inb one other p = true) : ws.length ≤ (one.length + 1) * (other.length + 1) := by
  have h : (ws.map (code other.length)).length ≤ (one.length + 1) * (other.length + 1) := by
    refine pig _ _ ?_ fun x hx => ?_
    · refine List.pairwise_map.mpr (List.Pairwise.imp_of_mem ?_ hn)
      intro p q hp hq hne he
      apply hne
      obtain ⟨i, j, rfl, hi, hj⟩ := inb_iff.mp (hb p hp)
      obtain ⟨i2, j2, rfl, hi2, hj2⟩ := inb_iff.mp (hb q hq)
      unfold code at he
      simp only [Int.toNat_natCast] at he
      have : i = i2 := by
        rcases Nat.lt_trichotomy i i2 with z | z | z
        · have := Nat.mul_le_mul_right (other.length + 1) z
          rw [Nat.succ_mul] at this
          omega
        · exact z
        · have := Nat.mul_le_mul_right (other.length + 1) z
          rw [Nat.succ_mul] at this
          omega
      subst this
      have : j = j2 := by omega
      subst this
      rfl
    · obtain ⟨p, hp, rfl⟩ := List.mem_map.mp hx
      obtain ⟨i, j, rfl, hi, hj⟩ := inb_iff.mp (hb p hp)
      unfold code
      simp only [Int.toNat_natCast]
      have := Nat.mul_le_mul_right (other.length + 1) hi
      rw [Nat.succ_mul]
      omega
  rwa [List.length_map] at h
def ks (L : List (Pr × Pr)) : List Pr := L.map (·.1)
structure Bfs (row one other : List Int) (L : List (Pr × Pr)) (n : Nat) : Prop where
  nd : (ks L).Nodup
  ib : ∀ p, p ∈ ks L → inb one other p = true
  z : ((0 : Int), (0 : Int)) ∈ ks L
  pr : ∀ e, e ∈ L → e.1 = (0, 0) ∨ (e.1 ∈ stp row one other e.2.1 e.2.2 ∧ e.2 ∈ ks L)
  cl : ∀ p, p ∈ ks (L.take n) → ∀ q, q ∈ stp row one other p.1 p.2 → q ∈ ks L
  le : n ≤ L.length
variable {row one other : List Int} {L : List (Pr × Pr)} {n : Nat}
theorem Bfs.start : Bfs row one other [((0, 0), (0, 0))] 0 := ⟨by simp [ks], fun p hp => by
  simp [ks] at hp
  subst hp
  exact inb_iff.mpr ⟨0, 0, rfl, Nat.zero_le _, Nat.zero_le _⟩, by simp [ks], fun e he => by simp at he; subst he; exact .inl rfl, fun p hp => by simp [ks] at hp, Nat.zero_le _⟩
theorem Bfs.size (b : Bfs row one other L n) : L.length ≤ (one.length + 1) * (other.length + 1) := by
  have := len_in b.nd b.ib
  rwa [ks, List.length_map] at this
theorem ks_append (L M : List (Pr × Pr)) : ks (L ++ M) = ks L ++ ks M := by unfold ks; rw [List.map_append]
theorem inb_step {p q : Pr} (hp : inb one other p = true) (hq : q ∈ stp row one other p.1 p.2) : inb one other q = true := by
  obtain ⟨i, j, rfl, hi, hj⟩ := inb_iff.mp hp
  rcases mem_stp.mp hq with ⟨h1, _, rfl⟩ | ⟨h1, _, rfl⟩
  · exact inb_iff.mpr ⟨i + 1, j, rfl, by simp at h1; omega, hj⟩
  · exact inb_iff.mpr ⟨i, j + 1, rfl, hi, by simp at h1; omega⟩
theorem Bfs.more {p q : Pr} (b : Bfs row one other L n) (hp : p ∈ ks L) (hq : q ∈ stp row one other p.1 p.2) (h : q ∉ ks L) : Bfs row one other (L ++ [(q, p)]) n := by
  refine ⟨?_, fun r hr => ?_, ?_, fun e he => ?_, fun r hr s hs => ?_, ?_⟩
  · rw [ks_append]
    refine List.nodup_append.mpr ⟨b.nd, by simp [ks], fun x hx y hy z => ?_⟩
    simp [ks] at hy
    subst hy
    subst z
    exact h hx
  · rw [ks_append, List.mem_append] at hr
    rcases hr with hr | hr
    · exact b.ib r hr
    · simp [ks] at hr
      subst hr
      exact inb_step (b.ib p hp) hq
  · rw [ks_append]
    exact List.mem_append_left _ b.z
  · rw [List.mem_append] at he
    rcases he with he | he
    · rcases b.pr e he with z | ⟨z1, z2⟩
      · exact .inl z
      · exact .inr ⟨z1, by rw [ks_append]; exact List.mem_append_left _ z2⟩
    · simp at he
      subst he
      exact .inr ⟨hq, by rw [ks_append]; exact List.mem_append_left _ hp⟩
  · rw [List.take_append_of_le_length b.le] at hr
    rw [ks_append]
    exact List.mem_append_left _ (b.cl r hr s hs)
  · rw [List.length_append]
    have := b.le
    omega
theorem Bfs.next {e : Pr × Pr} (b : Bfs row one other L n) (he : L[n]? = some e) (h : ∀ q, q ∈ stp row one other e.1.1 e.1.2 → q ∈ ks L) : Bfs row one other L (n + 1) := by
  have hl := (List.getElem?_eq_some_iff.mp he).1
  refine ⟨b.nd, b.ib, b.z, b.pr, fun p hp q hq => ?_, by omega⟩
  rw [List.take_add_one, he, ks_append, List.mem_append] at hp
  rcases hp with hp | hp
  · exact b.cl p hp q hq
  · simp [ks] at hp
    subst hp
    exact h q hq
theorem Bfs.un (b : Bfs row one other L n) (hn : L.length ≤ n) (hl : row.length = one.length + other.length) (h : ((one.length : Int), (other.length : Int)) ∉ ks L) : unF row one other (ks L) = true := by
  unfold unF
  rw [decide_eq_true hl, decide_eq_true b.z, decide_eq_false h, List.all_eq_true.mpr b.ib]
  simp only [Bool.true_and, Bool.not_false]
  refine List.all_eq_true.mpr fun p hp => List.all_eq_true.mpr fun q hq => decide_eq_true (b.cl p ?_ q hq)
  rw [List.take_of_length_le hn]
  exact hp
/-! the way back -/
theorem risF_gt (many : Int) : ∀ (ps : List Int) (l : Int), risF l many ps = true → ∀ p, p ∈ ps → l < p
  | [], _, _, p, hp => by cases hp
  | x :: r, l, h, p, hp => by
    rw [risF, Bool.and_eq_true, decide_eq_true_eq] at h
    rcases List.mem_cons.mp hp with rfl | hp
    · exact h.1.1
    · have := risF_gt many r x h.2 p hp
      omega
theorem rngI_cons' (lo : Int) (n : Nat) : rngI lo (n + 1) = lo :: rngI (lo + 1) n := by
  unfold rngI
  rw [List.range_succ_eq_map, List.map_cons, List.map_map]
  congr 1
  · omega
  · apply List.map_congr_left
    intro i _
    show lo + ((i + 1 : Nat) : Int) = lo + 1 + (i : Int)
    omega
theorem mem_rngI {lo k : Int} {n : Nat} (h : k ∈ rngI lo n) : lo ≤ k := by
  unfold rngI at h
  obtain ⟨i, _, rfl⟩ := List.mem_map.mp h
  omega
structure Way (row one other : List Int) (i j : Nat) (ps : List Int) : Prop where
  ri : risF ((i + j : Nat) - 1) row.length ps = true
  on : ps.map (gI row) = one.drop i
  ot : ((rngI (i + j : Nat) (row.length - (i + j))).filter fun k => !decide (k ∈ ps)).map (gI row) = other.drop j
  li : i ≤ one.length
  lj : j ≤ other.length
theorem Way.start (hl : row.length = one.length + other.length) : Way row one other one.length other.length [] := by
  refine ⟨rfl, by rw [List.drop_length]; rfl, ?_, Nat.le_refl _, Nat.le_refl _⟩
  rw [List.drop_length, hl, Nat.sub_self]
  rfl
theorem Way.fst {i j : Nat} {ps : List Int} (hl : row.length = one.length + other.length) (w : Way row one other (i + 1) j ps) (h : gI one (i : Int) = gI row ((i : Int) + (j : Int))) : Way row one other i j (((i + j : Nat) : Int) :: ps) := by
  have hi := w.li
  have hj := w.lj
  refine ⟨?_, ?_, ?_, by omega, hj⟩
  · rw [risF, Bool.and_eq_true, decide_eq_true_eq]
    refine ⟨⟨by omega, by omega⟩, ?_⟩
    have := w.ri
    rw [show ((i + 1 + j : Nat) : Int) - 1 = ((i + j : Nat) : Int) by omega] at this
    exact this
  · rw [List.map_cons, w.on, drop_gI (show i < one.length by omega), h, Int.natCast_add]
  · have e : row.length - (i + j) = (row.length - (i + 1 + j)) + 1 := by omega
    rw [e, rngI_cons', List.filter_cons_of_neg (by simp), ← w.ot]
    congr 1
    rw [show ((i + j : Nat) : Int) + 1 = ((i + 1 + j : Nat) : Int) by omega]
    refine List.filter_congr fun k hk => ?_
    have := mem_rngI hk
    have hk2 : k ≠ ((i + j : Nat) : Int) := by omega
    rw [decide_eq_decide.mpr (show k ∈ ((i + j : Nat) : Int) :: ps ↔ k ∈ ps from ⟨fun z => (List.mem_cons.mp z).resolve_left hk2, fun z => List.mem_cons_of_mem _ z⟩)]
theorem Way.snd {i j : Nat} {ps : List Int} (hl : row.length = one.length + other.length) (w : Way row one other i (j + 1) ps) (h : gI other (j : Int) = gI row ((i : Int) + (j : Int))) : Way row one other i j ps := by
  have hi := w.li
  have hj := w.lj
  refine ⟨?_, w.on, ?_, hi, by omega⟩
  · have := w.ri
    exact risF_weak _ ps _ _ (by omega) this
  · have e : row.length - (i + j) = (row.length - (i + (j + 1))) + 1 := by omega
    have hne : ((i + j : Nat) : Int) ∉ ps := fun z => by
      have := risF_gt _ ps _ w.ri _ z
      omega
    rw [e, rngI_cons', List.filter_cons_of_pos (by rw [decide_eq_false hne]; rfl), List.map_cons]
    rw [show ((i + j : Nat) : Int) + 1 = ((i + (j + 1) : Nat) : Int) by omega, w.ot, drop_gI (show j < other.length by omega), h, Int.natCast_add]
theorem Way.all {ps : List Int} (w : Way row one other 0 0 ps) : mxF row one other ps = true := by
  unfold mxF stdF restF
  have h1 := w.on
  have h2 := w.ot
  have h3 := w.ri
  rw [List.drop_zero] at h1 h2
  rw [show ((0 + 0 : Nat) : Int) - 1 = -1 by omega] at h3
  rw [h3, decide_eq_true h1, decide_eq_true (show ps.length = one.length by rw [← h1, List.length_map])]
  rw [decide_eq_true (show List.map (gI row) (List.filter (fun k => !decide (k ∈ ps)) (rngI 0 row.length)) = other from h2)]
  rfl
/-! places more, pairs more -/
theorem un_more (ws : List Pr) : unF row one other (ws ++ [((one.length : Int), (other.length : Int))]) = false := by
  unfold unF
  rw [decide_eq_true (show ((one.length : Int), (other.length : Int)) ∈ ws ++ [((one.length : Int), (other.length : Int))] from by simp)]
  simp
end M5

set_option Elab.async false
set_option linter.all false
set_option maxRecDepth 100000
set_option maxHeartbeats 2000000
set_option autoImplicit false
/-! M5b: how many a step takes. -/
namespace M5
open PySem L2 Lf
theorem filterMap_all {α β : Type} (f : α → Option β) : ∀ xs : List α, (∀ x, x ∈ xs → (f x).isSome = true) → (xs.filterMap f).length = xs.length
  | [], _ => rfl
  | x :: r, h => by
    have h1 := h x (List.mem_cons_self ..)
    have h2 := filterMap_all f r fun y hy => h y (List.mem_cons_of_mem _ hy)
    cases e : f x with
    | none => rw [e] at h1; cases h1
    | some b => rw [List.filterMap_cons_some e, List.length_cons, List.length_cons, h2]
theorem step0_len {α : Type} (xs : List α) : (stepL xs none none (some 2)).length = (xs.length + 1) / 2 := by
  unfold stepL
  have e : sliceBounds none none (some 2) xs.length = (0, (xs.length : Int), 2) := rfl
  rw [e]
  unfold sliceRange
  rw [filterMap_all]
  · rw [List.length_map, List.length_range]
    simp only [show (2 : Int) > 0 from by decide, if_true]
    split <;> omega
  · intro k hk
    obtain ⟨i, hi, rfl⟩ := List.mem_map.mp hk
    have hi := List.mem_range.mp hi
    simp only [show (2 : Int) > 0 from by decide, if_true] at hi
    have : (0 + 2 * (i : Int)).toNat < xs.length := by split at hi <;> omega
    rw [List.getElem?_eq_getElem this]
    rfl
theorem step1_len {α : Type} (xs : List α) : (stepL xs (some 1) none (some 2)).length = xs.length / 2 := by
  unfold stepL
  have e : sliceBounds (some 1) none (some 2) xs.length = (max 0 (min 1 (xs.length : Int)), (xs.length : Int), 2) := rfl
  rw [e]
  unfold sliceRange
  rw [filterMap_all]
  · rw [List.length_map, List.length_range]
    simp only [show (2 : Int) > 0 from by decide, if_true]
    split <;> omega
  · intro k hk
    obtain ⟨i, hi, rfl⟩ := List.mem_map.mp hk
    have hi := List.mem_range.mp hi
    simp only [show (2 : Int) > 0 from by decide, if_true] at hi
    have : (max 0 (min 1 (xs.length : Int)) + 2 * (i : Int)).toNat < xs.length := by split at hi <;> omega
    rw [List.getElem?_eq_getElem this]
    rfl
end M5

set_option Elab.async false
set_option linter.all false
set_option maxRecDepth 100000
set_option maxHeartbeats 2000000
set_option autoImplicit false
/-! M4: cuts between which all kinds stand, in plain Lean. -/
namespace M4
open Lf (gI cutL rngI sortU)
open M1 M2
def inr (k x : Int) : Bool := decide (0 ≤ x) && decide (x < k)
theorem inr_iff {k x : Int} : inr k x = true ↔ 0 ≤ x ∧ x < k := by unfold inr; rw [Bool.and_eq_true, decide_eq_true_eq, decide_eq_true_eq]
def cnt (k : Int) (xs : List Int) : Nat := (sortU (xs.filter (inr k))).length
def cutsF (row : List Int) (k b : Int) : List Int → Bool
  | [] => true
  | c :: r => (decide (b < c) && decide (c ≤ row.length)) && (decide ((cnt k (cutL row (some b) (some c)) : Int) = k) && cutsF row k c r)
def misF (row : List Int) (k : Int) (cuts word : List Int) : Bool :=
  cutsF row k 0 cuts && (decide ((word.length : Int) = (cuts.length : Int) + 1) && (word.all (inr k) && !isLeft row word))
/-- distinct numbers in bounds -/
theorem pigI {k : Nat} {xs : List Int} (hn : xs.Nodup) (h : ∀ x, x ∈ xs → 0 ≤ x ∧ x < k) : xs.length ≤ k := by
  have := M5.pig k (xs.map Int.toNat) (List.pairwise_map.mpr (List.Pairwise.imp_of_mem (fun {a b} ha hb hne he => hne (by
    have := h a ha
    have := h b hb
    omega)) hn)) (fun x hx => by
    obtain ⟨y, hy, rfl⟩ := List.mem_map.mp hx
    have := h y hy
    omega)
  rwa [List.length_map] at this
theorem cnt_nodup (k : Int) (xs : List Int) : (sortU (xs.filter (inr k))).Nodup := Lf.nodup_of_pw (Lf.pw_sortU _)
theorem cnt_mem {k : Int} {xs : List Int} {x : Int} : x ∈ sortU (xs.filter (inr k)) ↔ x ∈ xs ∧ 0 ≤ x ∧ x < k := by rw [Lf.mem_sortU, List.mem_filter, inr_iff]
theorem cnt_le {k : Int} (hk : 0 ≤ k) (xs : List Int) : (cnt k xs : Int) ≤ k := by
  have := pigI (k := k.toNat) (cnt_nodup k xs) (fun x hx => by have := (cnt_mem.mp hx).2; omega)
  unfold cnt
  omega
theorem cnt_all {k : Int} {xs : List Int} (h : (cnt k xs : Int) = k) {x : Int} (h0 : 0 ≤ x) (h1 : x < k) : x ∈ xs := by
  apply Classical.byContradiction
  intro hx
  have := pigI (k := k.toNat) (xs := x :: sortU (xs.filter (inr k))) (List.nodup_cons.mpr ⟨fun m => hx (cnt_mem.mp m).1, cnt_nodup k xs⟩) (fun y hy => by
    rcases List.mem_cons.mp hy with rfl | hy
    · omega
    · have := (cnt_mem.mp hy).2; omega)
  rw [List.length_cons] at this
  unfold cnt at h
  omega
theorem cnt_eq {k : Int} {xs ks : List Int} (hn : ks.Nodup) (h : ∀ x, x ∈ ks ↔ x ∈ xs ∧ 0 ≤ x ∧ x < k) : cnt k xs = ks.length :=
  (Lf.len_sortU hn fun x => by rw [h, List.mem_filter, inr_iff]).symm
/-- the other order: sorted first, looked through then -/
theorem cnt_sorted (k : Int) (xs : List Int) : ((sortU xs).filter (inr k)).length = cnt k xs :=
  (cnt_eq ((Lf.nodup_of_pw (Lf.pw_sortU xs)).filter _) fun x => by rw [List.mem_filter, Lf.mem_sortU, inr_iff]).symm
/-! words that are left -/
theorem cut_mid (row : List Int) {b c : Int} (h : 0 ≤ b) (h2 : 0 ≤ c) : cutL row (some b) (some c) = (row.drop b.toNat).take (c.toNat - b.toNat) := Lf.cutL_mid row h h2
theorem sub_single {x : Int} {xs : List Int} (h : x ∈ xs) : [x].Sublist xs := List.singleton_sublist.mpr h
theorem word_left {row : List Int} {k : Int} : ∀ (cuts word : List Int) (b : Int), 0 ≤ b → cutsF row k b cuts = true → word.all (inr k) = true → word.length ≤ cuts.length → word.Sublist (row.drop b.toNat)
  | _, [], _, _, _, _, _ => List.nil_sublist _
  | [], _ :: _, _, _, _, _, h => absurd h (by simp)
  | c :: cuts, x :: word, b, hb, h, hw, hl => by
    rw [cutsF, Bool.and_eq_true, Bool.and_eq_true, Bool.and_eq_true, decide_eq_true_eq, decide_eq_true_eq, decide_eq_true_eq] at h
    obtain ⟨⟨h1, h2⟩, h3, h4⟩ := h
    rw [List.all_cons, Bool.and_eq_true, inr_iff] at hw
    have ih := word_left cuts word c (by omega) h4 hw.2 (by rw [List.length_cons, List.length_cons] at hl; omega)
    have hx := cnt_all h3 hw.1.1 hw.1.2
    rw [cut_mid row hb (by omega)] at hx
    have e : row.drop b.toNat = (row.drop b.toNat).take (c.toNat - b.toNat) ++ row.drop c.toNat := by
      conv => lhs; rw [← List.take_append_drop (c.toNat - b.toNat) (row.drop b.toNat)]
      rw [List.drop_drop, show b.toNat + (c.toNat - b.toNat) = c.toNat by omega]
    rw [e]
    exact List.Sublist.append (sub_single hx) ih
theorem word_isLeft {row : List Int} {k : Int} {cuts word : List Int} (h : cutsF row k 0 cuts = true) (hw : word.all (inr k) = true) (hl : word.length ≤ cuts.length) : (eF 0 row word).length = word.length := by
  have := word_left cuts word 0 (Int.le_refl _) h hw hl
  exact (eF_sub 0 row word).mpr this
theorem not_left_iff (row word : List Int) : (!isLeft row word) = decide (((eF 0 row word).length : Int) < (word.length : Int)) := by
  rw [isLeft_eF, ← decide_not]
  apply decide_eq_decide.mpr
  have := eF_len 0 row word
  omega
/-! how they are found -/
def lastC (b : Int) : List Int → Int
  | [] => b
  | c :: r => lastC c r
theorem lastC_snoc (c : Int) : ∀ (cs : List Int) (b : Int), lastC b (cs ++ [c]) = c
  | [], _ => rfl
  | x :: r, _ => lastC_snoc c r x
theorem cutsF_snoc {row : List Int} {k : Int} (c : Int) : ∀ (cs : List Int) (b : Int), cutsF row k b (cs ++ [c]) = (cutsF row k b cs && ((decide (lastC b cs < c) && decide (c ≤ row.length)) && decide ((cnt k (cutL row (some (lastC b cs)) (some c)) : Int) = k)))
  | [], b => by rw [List.nil_append, cutsF, cutsF, cutsF, Bool.and_true, Bool.true_and]; rfl
  | x :: r, b => by rw [show lastC b (x :: r) = lastC x r from rfl, List.cons_append, cutsF, cutsF, cutsF_snoc c r x]; simp only [Bool.and_assoc]
theorem sub_snoc {xs ys : List Int} {x y : Int} (h : (xs ++ [x]).Sublist (ys ++ [y])) : (xs ++ [x]).Sublist ys ∨ x = y ∧ xs.Sublist ys := by
  have h' := List.reverse_sublist.mpr h
  rw [List.reverse_append, List.reverse_append, List.reverse_singleton, List.reverse_singleton, List.singleton_append, List.singleton_append] at h'
  cases h' with
  | cons _ h' =>
    refine .inl (List.reverse_sublist.mp ?_)
    rw [List.reverse_append]
    exact h'
  | cons_cons _ h' => exact .inr ⟨rfl, List.reverse_sublist.mp h'⟩
theorem sub_snoc' {xs ys : List Int} {x y : Int} (h : (xs ++ [x]).Sublist (ys ++ [y])) : xs.Sublist ys := by
  rcases sub_snoc h with h | h
  · exact (List.sublist_append_left _ _).trans h
  · exact h.2
def insK (met : List Int) (s : Int) : List Int := if s ∈ met then met else met ++ [s]
theorem mem_insK {met : List Int} {s x : Int} : x ∈ insK met s ↔ x ∈ met ∨ x = s := by
  unfold insK
  split
  · rename_i h
    exact ⟨.inl, fun z => z.elim id fun e => e ▸ h⟩
  · rw [List.mem_append, List.mem_singleton]
theorem nodup_insK {met : List Int} {s : Int} (h : met.Nodup) : (insK met s).Nodup := by
  unfold insK
  split
  · exact h
  · rename_i hs
    refine List.nodup_append.mpr ⟨h, by simp, fun x hx y hy z => ?_⟩
    rw [List.mem_singleton] at hy
    subst hy
    subst z
    exact hs hx
/-- where the walk stands behind the first n signs -/
structure Mst (row : List Int) (k : Int) (n : Nat) (cuts word met : List Int) : Prop where
  cu : cutsF row k 0 cuts = true
  b0 : 0 ≤ lastC 0 cuts
  bn : lastC 0 cuts ≤ n
  ln : n ≤ row.length
  wl : word.length = cuts.length
  wr : word.all (inr k) = true
  nd : met.Nodup
  mm : ∀ x, x ∈ met ↔ x ∈ (row.take n).drop (lastC 0 cuts).toNat ∧ 0 ≤ x ∧ x < k
  ml : (met.length : Int) < k
  nl : ∀ x, (word ++ [x]).Sublist (row.take n) → x ∈ (row.take n).drop (lastC 0 cuts).toNat
  cl : cuts.length ≤ n
variable {row : List Int} {k : Int} {n : Nat} {cuts word met : List Int} {s : Int}
theorem Mst.start (hk : 1 ≤ k) : Mst row k 0 [] [] [] := ⟨rfl, Int.le_refl _, Int.le_refl _, Nat.zero_le _, rfl, rfl, List.nodup_nil, fun x => by simp, by show (0 : Int) < k; omega, (fun x h => by
  rw [List.take_zero] at h
  cases h), Nat.zero_le _⟩
theorem take_n (h : row[n]? = some s) : row.take (n + 1) = row.take n ++ [s] := by rw [List.take_add_one, h]; rfl
theorem Mst.dropS (m : Mst row k n cuts word met) (h : row[n]? = some s) : (row.take (n + 1)).drop (lastC 0 cuts).toNat = (row.take n).drop (lastC 0 cuts).toNat ++ [s] := by
  have := m.bn
  have := m.b0
  have := m.ln
  rw [take_n h, List.drop_append_of_le_length (by rw [List.length_take]; omega)]
theorem Mst.nlS (m : Mst row k n cuts word met) (h : row[n]? = some s) : ∀ x, (word ++ [x]).Sublist (row.take (n + 1)) → x ∈ (row.take (n + 1)).drop (lastC 0 cuts).toNat := fun x hx => by
  rw [m.dropS h, List.mem_append, List.mem_singleton]
  rw [take_n h] at hx
  rcases sub_snoc hx with hx | ⟨rfl, _⟩
  · exact .inl (m.nl x hx)
  · exact .inr rfl
/-- a sign out of bounds -/
theorem Mst.out (m : Mst row k n cuts word met) (h : row[n]? = some s) (hs : inr k s = false) : Mst row k (n + 1) cuts word met := by
  have hl := (List.getElem?_eq_some_iff.mp h).1
  have hs' : ¬ (0 ≤ s ∧ s < k) := fun z => by rw [inr_iff.mpr z] at hs; cases hs
  refine ⟨m.cu, m.b0, by have := m.bn; omega, hl, m.wl, m.wr, m.nd, fun x => ?_, m.ml, m.nlS h, by have := m.cl; omega⟩
  rw [m.dropS h, List.mem_append, List.mem_singleton, m.mm]
  constructor
  · rintro ⟨h1, h2⟩
    exact ⟨.inl h1, h2⟩
  · rintro ⟨h1 | rfl, h2⟩
    · exact ⟨h1, h2⟩
    · exact absurd h2 hs'
theorem Mst.mmS (m : Mst row k n cuts word met) (h : row[n]? = some s) (hs : inr k s = true) : ∀ x, x ∈ insK met s ↔ x ∈ (row.take (n + 1)).drop (lastC 0 cuts).toNat ∧ 0 ≤ x ∧ x < k := fun x => by
  rw [mem_insK, m.dropS h, List.mem_append, List.mem_singleton, m.mm]
  constructor
  · rintro (⟨h1, h2⟩ | rfl)
    · exact ⟨.inl h1, h2⟩
    · exact ⟨.inr rfl, inr_iff.mp hs⟩
  · rintro ⟨h1 | rfl, h2⟩
    · exact .inl ⟨h1, h2⟩
    · exact .inr rfl
theorem Mst.ins (m : Mst row k n cuts word met) (h : row[n]? = some s) (hs : inr k s = true) (hf : ((insK met s).length : Int) ≠ k) : Mst row k (n + 1) cuts word (insK met s) := by
  have hl := (List.getElem?_eq_some_iff.mp h).1
  have hk : 0 ≤ k := by have := m.ml; omega
  have hle := pigI (k := k.toNat) (nodup_insK (s := s) m.nd) (fun x hx => by have := ((m.mmS h hs x).mp hx).2; omega)
  exact ⟨m.cu, m.b0, by have := m.bn; omega, hl, m.wl, m.wr, nodup_insK m.nd, m.mmS h hs, by omega, m.nlS h, by have := m.cl; omega⟩
theorem Mst.full (m : Mst row k n cuts word met) (h : row[n]? = some s) (hs : inr k s = true) (hf : ((insK met s).length : Int) = k) : Mst row k (n + 1) (cuts ++ [(n : Int) + 1]) (word ++ [s]) [] := by
  have hl := (List.getElem?_eq_some_iff.mp h).1
  have b0 := m.b0
  have bn := m.bn
  have hmt : s ∉ met := fun z => by
    have := m.ml
    unfold insK at hf
    rw [if_pos z] at hf
    omega
  have hnew : s ∉ (row.take n).drop (lastC 0 cuts).toNat := fun z => hmt ((m.mm s).mpr ⟨z, inr_iff.mp hs⟩)
  have el : lastC 0 (cuts ++ [(n : Int) + 1]) = (n : Int) + 1 := lastC_snoc _ _ _
  have ed : (row.take (n + 1)).drop (lastC 0 (cuts ++ [(n : Int) + 1])).toNat = [] := by
    rw [el]
    exact List.drop_eq_nil_of_le (by rw [List.length_take]; omega)
  have hcnt : (cnt k (cutL row (some (lastC 0 cuts)) (some ((n : Int) + 1))) : Int) = k := by
    have q : cnt k (cutL row (some (lastC 0 cuts)) (some ((n : Int) + 1))) = (insK met s).length := by
      refine cnt_eq (nodup_insK m.nd) fun x => ?_
      rw [m.mmS h hs, cut_mid row b0 (by omega)]
      rw [show ((n : Int) + 1).toNat = n + 1 by omega, ← List.drop_take]
    rw [q]
    exact hf
  refine ⟨?_, by rw [el]; omega, by rw [el]; omega, hl, by rw [List.length_append, List.length_append, m.wl]; rfl, ?_, List.nodup_nil, fun x => ?_, by show (0 : Int) < k; have := m.ml; omega, fun x hx => ?_, by rw [List.length_append, List.length_singleton]; have := m.cl; omega⟩
  · rw [cutsF_snoc, m.cu, decide_eq_true (show lastC 0 cuts < (n : Int) + 1 by omega), decide_eq_true (show (n : Int) + 1 ≤ (row.length : Int) by omega), decide_eq_true hcnt]
    rfl
  · rw [List.all_append, m.wr, List.all_cons, hs]
    rfl
  · rw [ed]
    simp
  · rw [take_n h] at hx
    exact absurd (m.nl s (sub_snoc' hx)) hnew
theorem sub_len : ∀ {xs ys : List Int}, xs.Nodup → (∀ x, x ∈ xs → x ∈ ys) → xs.length ≤ ys.length
  | [], _, _, _ => Nat.zero_le _
  | x :: xs, ys, hn, h => by
    have hn' := List.nodup_cons.mp hn
    have := sub_len (xs := xs) (ys := ys.erase x) hn'.2 fun y hy => (List.mem_erase_of_ne (fun z => by subst z; exact hn'.1 hy)).mpr (h y (List.mem_cons_of_mem _ hy))
    rw [List.length_erase_of_mem (h x (List.mem_cons_self ..))] at this
    have := List.length_pos_of_mem (h x (List.mem_cons_self ..))
    rw [List.length_cons]
    omega
theorem run_len {t : Nat} (h : ∀ i : Nat, i < t → (i : Int) ∈ met) : t ≤ met.length := by
  have := sub_len (xs := (List.range t).map fun i : Nat => (i : Int)) (ys := met) (List.pairwise_map.mpr (List.Pairwise.imp (fun {a b} hne he => hne (by omega)) List.nodup_range)) (fun x hx => by
    obtain ⟨i, hi, rfl⟩ := List.mem_map.mp hx
    exact h i (List.mem_range.mp hi))
  rwa [List.length_map, List.length_range] at this
theorem Mst.fin (m : Mst row k row.length cuts word met) {t : Nat} (hm : (t : Int) ∉ met) (ht : (t : Int) < k) : misF row k cuts (word ++ [(t : Int)]) = true := by
  unfold misF
  rw [m.cu, List.all_append, m.wr, List.all_cons, inr_iff.mpr ⟨by omega, ht⟩, List.length_append, List.length_singleton, m.wl, decide_eq_true (show ((cuts.length + 1 : Nat) : Int) = (cuts.length : Int) + 1 by omega), isLeft_sub, decide_eq_false]
  · rfl
  · intro h
    have := m.nl (t : Int) (by rw [List.take_length]; exact h)
    exact hm ((m.mm _).mpr ⟨this, by omega, ht⟩)
theorem mis_cut (c : Int) (h : (row.length : Int) < c) : misF row k (cuts ++ [c]) word = false := by
  unfold misF
  rw [cutsF_snoc, decide_eq_false (show ¬ c ≤ (row.length : Int) by omega), Bool.and_false, Bool.false_and, Bool.and_false, Bool.false_and]
theorem mis_word (h : misF row k cuts word = true) (x : Int) : misF row k cuts (word ++ [x]) = false := by
  unfold misF at h ⊢
  rw [Bool.and_eq_true, Bool.and_eq_true, decide_eq_true_eq] at h
  rw [List.length_append, List.length_singleton, decide_eq_false (by omega), Bool.false_and, Bool.and_false]
theorem cuts_len {row : List Int} {k : Int} : ∀ (cuts : List Int) (b : Int), 0 ≤ b → b ≤ row.length → cutsF row k b cuts = true → (cuts.length : Int) ≤ row.length - b
  | [], b, _, h2, _ => by rw [List.length_nil]; omega
  | c :: r, b, h, h2, e => by
    rw [cutsF, Bool.and_eq_true, Bool.and_eq_true, Bool.and_eq_true, decide_eq_true_eq, decide_eq_true_eq] at e
    have := cuts_len r c (by omega) e.1.2 e.2.2
    rw [List.length_cons]
    omega
end M4

set_option Elab.async false
set_option linter.all false
set_option maxRecDepth 100000
set_option maxHeartbeats 2000000
set_option autoImplicit false
namespace Kc
open PySem L2 Lf
def top (i : Nat) : Stmt := PySem.Challenge.pw_leftin_k07_answers_by_hand.main.body.getD i (.Pass ⟨0, 0, 0, 0⟩)
abbrev s_is_number : Stmt := top 6
abbrev s_check_row : Stmt := top 7
abbrev s_check_kinds : Stmt := top 8
abbrev s_earliest : Stmt := top 9
abbrev s_are_rising : Stmt := top 12
abbrev s_stands : Stmt := top 13
abbrev s_Left_init : Stmt := inClass (top 14) 0
abbrev s_Left_shows : Stmt := inClass (top 14) 1
abbrev s_Short_init : Stmt := inClass (top 15) 0
abbrev s_Short_shows : Stmt := inClass (top 15) 1
abbrev s_is_table : Stmt := top 16
abbrev s_Longest_init : Stmt := inClass (top 17) 0
abbrev s_Longest_shows : Stmt := inClass (top 17) 1
abbrev s_Both_init : Stmt := inClass (top 18) 0
abbrev s_Both_shows : Stmt := inClass (top 18) 1
abbrev s_Missing_init : Stmt := inClass (top 19) 0
abbrev s_Missing_shows : Stmt := inClass (top 19) 1
abbrev s_Mixed_init : Stmt := inClass (top 20) 0
abbrev s_Mixed_shows : Stmt := inClass (top 20) 1
abbrev s_Unmixed_init : Stmt := inClass (top 21) 0
abbrev s_Unmixed_shows : Stmt := inClass (top 21) 1
abbrev s_steps_on : Stmt := top 22
abbrev s_left : Stmt := top 24
abbrev s_table_of : Stmt := top 25
abbrev s_common_places : Stmt := top 26
abbrev s_longest : Stmt := top 27
abbrev s_shortest : Stmt := top 28
abbrev s_missing : Stmt := top 29
abbrev s_mixed : Stmt := top 30
abbrev s_law_row : Stmt := top 32
abbrev s_law_stands : Stmt := top 33
abbrev s_law_is_left : Stmt := top 34
abbrev s_law_short : Stmt := top 35
abbrev s_law_table : Stmt := top 36
abbrev s_law_long : Stmt := top 37
abbrev s_law_missed : Stmt := top 38
abbrev s_law_is_mixed : Stmt := top 39
abbrev s_law_unmixed : Stmt := top 40
abbrev s_law_says : Stmt := top 41
abbrev s_law_bent : Stmt := top 42
abbrev s_law_places_right : Stmt := top 43
abbrev s_law_rows_right : Stmt := top 44
abbrev s_law_tables_right : Stmt := top 45
abbrev s_law_missing_right : Stmt := top 46
abbrev s_law_mixed_right : Stmt := top 47
abbrev s_law_few_right : Stmt := top 48
abbrev s_law : Stmt := top 49
end Kc

set_option Elab.async false
set_option linter.all false
set_option maxRecDepth 100000
set_option maxHeartbeats 2000000
set_option autoImplicit false
namespace Kc
open PySem L2 Lf M1
/-- the built-ins' names are their own -/
structure Blt (mg : Str → Option Value) : Prop where
  isinstance : mg "isinstance" = none
  int : mg "int" = none
  bool : mg "bool" = none
  list : mg "list" = none
  tuple : mg "tuple" = none
  len : mg "len" = none
  range : mg "range" = none
  reversed : mg "reversed" = none
  enumerate : mg "enumerate" = none
  zip : mg "zip" = none
  sum : mg "sum" = none
  min : mg "min" = none
  max : mg "max" = none
  all : mg "all" = none
  any : mg "any" = none
  set : mg "set" = none
  sorted : mg "sorted" = none
theorem boot_int : bootBuiltins "int" = some (.type "int") := by decide +kernel
theorem boot_bool : bootBuiltins "bool" = some (.type "bool") := by decide +kernel
theorem boot_list : bootBuiltins "list" = some (.type "list") := by decide +kernel
theorem boot_tuple : bootBuiltins "tuple" = some (.type "tuple") := by decide +kernel
theorem all_true {α : Type} (xs : List α) : (xs.map fun _ => true).all id = true := by
  induction xs with
  | nil => rfl
  | cons x r ih => simp [ih]
theorem gI_at {ns : List Int} {i : Int} {n : Nat} (h : i = (n : Int)) : gI ns i = ns.getD n 0 := by
  subst h
  unfold gI
  rw [if_pos (by omega), Int.toNat_natCast]
theorem gI_last (ns : List Int) (x : Int) : gI (ns ++ [x]) (-1) = x := by
  unfold gI
  rw [if_neg (by decide)]
  simp
  rw [show (-1 + ((ns.length : Int) + 1)).toNat = ns.length by omega]
  simp
theorem setI_at {ns : List Int} {i v : Int} {n : Nat} (h : i = (n : Int)) : setI ns i v = ns.set n v := by
  subst h
  unfold setI
  rw [if_pos (by omega), Int.toNat_natCast]
theorem inR_at {m : Nat} {i : Int} {n : Nat} (h : i = (n : Int)) (hn : n < m) : inR m i := by
  subst h
  exact ⟨by omega, by omega⟩
theorem rngI_cons (lo : Int) (n : Nat) : rngI lo (n + 1) = lo :: rngI (lo + 1) n := by
  unfold rngI
  rw [List.range_succ_eq_map, List.map_cons, List.map_map]
  congr 1
  · omega
  · apply List.map_congr_left
    intro i _
    show lo + ((i + 1 : Nat) : Int) = lo + 1 + (i : Int)
    omega
theorem rngI_succ (lo : Int) (n : Nat) : rngI lo (n + 1) = rngI lo n ++ [lo + (n : Int)] := by
  unfold rngI
  rw [List.range_succ, List.map_append]
  rfl
theorem ji_cells {X : Cx} {tg e : Expr} {la : Lv} {ρ : PEnv} {d : D} {ns : List Int} (h : JE X la e ρ d) (hd : d = .scr ns ∨ d = .il ns) (z : Lv.le la .imm = true := by rfl) : JI X tg e .frs ρ (ns.map D.int) := by
  rcases hd with rfl | rfl
  · exact ji_listS h z
  · exact ji_list h z
section
variable {P : Program} {w : World} {K : PySem.W.Frag} {mg : Str → Option Value} {base : Heap}
theorem sc_is_number : FnScope ["thing"] ["thing"] (defScope s_is_number) := ⟨rfl, rfl, rfl, by decide +kernel, rfl, by decide +kernel, by decide +kernel⟩
def p_is_number (ds : List D) : Prop := ∃ i, ds = [.int i]
def g_is_number (_ : List D) : D := .bl true
theorem ok_is_number {f : Addr} {fd : FuncData} (F : Fun K "is_number" "is_number" s_is_number f fd) (T : Blt mg) : FnOk P w K mg base CX0 1 f fd ["thing"] (spF K p_is_number g_is_number) := by
  refine fn_ok (k := 0) F sc_is_number (by rintro ds ⟨i, rfl⟩; rfl) fun cdv A outer s H E hr ds hp => ?_
  obtain ⟨i, rfl⟩ := hp
  exact jss_one (js_ret (je_and (je_isT (b := true) T.isinstance T.int boot_int (je_v 0 rfl) (kit_ty (by decide +kernel)) trivial) (fun _ => (je_one (je_not (je_isT (b := false) T.isinstance T.bool boot_bool (je_v 0 rfl) (kit_ty (by decide +kernel)) trivial))))) rfl)
theorem sc_check_row : FnScope ["row", "sign"] ["row"] (defScope s_check_row) := ⟨rfl, rfl, rfl, by decide +kernel, rfl, by decide +kernel, by decide +kernel⟩
def p_check_row (ds : List D) : Prop := ∃ ns : List Int, ds = [.il ns] ∧ ns.length ≤ 1000
def g_check_row (_ : List D) : D := .non
theorem ok_check_row {f : Addr} {fd : FuncData} (F : Fun K "check_row" "check_row" s_check_row f fd) (T : Blt mg) (C_is_number : Callee P w K mg base 1 "is_number" p_is_number g_is_number) : FnOk P w K mg base CX0 2 f fd ["row"] (spF K p_check_row g_check_row) := by
  refine fn_ok (k := 1) F sc_check_row (by rintro ds ⟨i, rfl, _⟩; rfl) fun cdv A outer s H E hr ds hp => ?_
  obtain ⟨ns, rfl, hz⟩ := hp
  refine jss_one (js_if (JW.pt (jw_or (jt_not (jt_v (je_isT (b := true) T.isinstance T.list boot_list (je_v 0 rfl) (kit_ty (by decide +kernel)) trivial))) (fun _ => (jw_or1 (jt_not (jt_v (je_all T.all (JO.je (jo_mapB (x := "sign") (n := 1) (f := fun _ => true) (ji_list (je_v 0 rfl)) (fun _ _ _ _ _ _ => jgb_name 1 sc_check_row.nd) (fun k hk _ _ _ _ _ => (je_call C_is_number hr (ja_cons (je_v 1 rfl) ja_nil) ⟨_, rfl⟩)) sc_check_row.nd (blkOk_by (N := ["row", "sign"]) (sc := defScope s_check_row) (by decide +kernel)) (Nat.le_trans hz (by decide))))))))))) (fun c => ?_) (fun c => ?_))
  · simp [all_true] at c
  · exact jss_nil rfl

theorem sc_law_row : FnScope ["_law_cells", "_law_code", "_law_most", "_law_cell"] ["_law_cells", "_law_code"] (defScope s_law_row) := ⟨rfl, rfl, rfl, by decide +kernel, rfl, by decide +kernel, by decide +kernel⟩
def mostF (c : Int) : Int := if c % 4 = 0 then 2 else if c % 4 = 1 then 3 else if c % 4 = 2 then 5 else 10 ^ 30
def lawRow (cs : List Int) (c : Int) : List Int := if c / 4 % 3 = 2 then cs.map (fun x => (x % mostF c - 1) * 10 ^ 30) else cs.map (fun x => x % mostF c)
theorem lawRow_length (cs : List Int) (c : Int) : (lawRow cs c).length = cs.length := by unfold lawRow; split <;> simp
theorem mostF_pos (c : Int) : 0 < mostF c ∧ mostF c ≤ 10 ^ 30 := by unfold mostF; split; decide; split; decide; split; decide; decide
theorem most_gD (c : Int) : gD [D.int 2, .int 3, .int 5, .int (10 ^ (30 : Int).toNat)] (c % 4) = .int (mostF c) := by
  have h1 := Int.emod_nonneg c (show (4 : Int) ≠ 0 by decide)
  have h2 := Int.emod_lt_of_pos c (show (0 : Int) < 4 by decide)
  unfold mostF
  have h : c % 4 = 0 ∨ c % 4 = 1 ∨ c % 4 = 2 ∨ c % 4 = 3 := by omega
  rcases h with h | h | h | h <;> rw [h] <;> rfl
theorem abs_lt {x m : Int} (h0 : 0 < m) (h1 : m ≤ 10 ^ 30) : (x % m - 1).natAbs < 2 ^ 101 := by
  have h2 := Int.emod_nonneg x (show m ≠ 0 by omega)
  have h3 := Int.emod_lt_of_pos x h0
  have h4 : (10 : Int) ^ 30 < 2 ^ 100 := by decide
  have h5 : (2 : Int) ^ 100 = 1267650600228229401496703205376 := by decide
  have h6 : (2 : Nat) ^ 101 = 2535301200456458802993406410752 := by decide
  rw [h5] at h4
  rw [h6]
  omega
def p_law_row (ds : List D) : Prop := ∃ (d : D) (cs : List Int) (c : Int), ds = [d, .int c] ∧ (d = .scr cs ∨ d = .il cs) ∧ cs.length ≤ 1000
def g_law_row (ds : List D) : D := match ds with | [.scr cs, .int c] => .il (lawRow cs c) | [.il cs, .int c] => .il (lawRow cs c) | _ => .non
theorem ok_law_row {f : Addr} {fd : FuncData} (F : Fun K "_law_row" "_law_row" s_law_row f fd) (T : Blt mg) : FnOk P w K mg base CX0 1 f fd ["_law_cells", "_law_code"] (spF K p_law_row g_law_row) := by
  refine fn_ok (k := 0) F sc_law_row (by rintro ds ⟨d, i, j, rfl, _⟩; rfl) fun cdv A outer s H E hr ds hp => ?_
  obtain ⟨cd, cs, c, rfl, hcd, hz⟩ := hp
  have hg : g_law_row [cd, .int c] = .il (lawRow cs c) := by rcases hcd with rfl | rfl <;> rfl
  obtain ⟨hm0, hm1⟩ := mostF_pos c
  have h1 := Int.emod_nonneg c (show (4 : Int) ≠ 0 by decide)
  have h2 := Int.emod_lt_of_pos c (show (0 : Int) < 4 by decide)
  refine jss_cons (js_set 2 (je_ixT (je_tup (l := .frs) (ja_cons je_int (ja_cons je_int (ja_cons je_int (ja_cons (je_pow je_int je_int ⟨by decide, by decide, by decide⟩) ja_nil))))) (je_mod (je_v 1 rfl) je_int (by decide)) ⟨by show -(4 : Int) ≤ _; omega, by show _ < (4 : Int); omega⟩ (most_gD c)) ?_ (by decide) sc_law_row.nd)
  refine jss_cons (js_if (jt_c (jc_eq (je_mod (je_div (je_v 1 rfl) je_int ⟨by decide, by decide⟩) je_int (by decide)) je_int)) (fun c => ?_) (fun c => ?_))
  · skip
    refine jss_one (js_ret (JOI.je (joi_mapI (x := "_law_cell") (n := 3) (ji_cells (je_v 0 rfl) hcd) (fun _ _ _ _ _ _ => jgb_name 3 sc_law_row.nd) (fun k hk _ _ _ _ _ => (je_mulW (je_sub (je_mod (je_v 3 rfl) (je_v 2 rfl) hm0) je_int) (je_pow je_int je_int ⟨by decide, by decide, by decide⟩) (wide_mul (a := 101) (b := 100) (abs_lt hm0 hm1) (by decide) (by decide) (by decide) (by decide)))) sc_law_row.nd (blkOk_by (N := ["_law_cells", "_law_code", "_law_most", "_law_cell"]) (sc := defScope s_law_row) (by decide +kernel)) (by omega))) ?_)
    rw [hg]
    unfold lawRow
    rw [if_pos (of_decide_eq_true c)]
    rfl
  refine jss_nil ?_
  refine jss_one (js_ret (JOI.je (joi_mapI (x := "_law_cell") (n := 3) (ji_cells (je_v 0 rfl) hcd) (fun _ _ _ _ _ _ => jgb_name 3 sc_law_row.nd) (fun k hk _ _ _ _ _ => (je_mod (je_v 3 rfl) (je_v 2 rfl) hm0)) sc_law_row.nd (blkOk_by (N := ["_law_cells", "_law_code", "_law_most", "_law_cell"]) (sc := defScope s_law_row) (by decide +kernel)) (by omega))) ?_)
  rw [hg]
  unfold lawRow
  rw [if_neg (of_decide_eq_false c)]
theorem sc_earliest : FnScope ["row", "other", "found", "place", "sign"] ["row", "other"] (defScope s_earliest) := ⟨rfl, rfl, rfl, by decide +kernel, rfl, by decide +kernel, by decide +kernel⟩
def p_earliest (ds : List D) : Prop := ∃ ns ms : List Int, ds = [.il ns, .il ms] ∧ ns.length ≤ 1000 ∧ ms.length ≤ 1000
def g_earliest (ds : List D) : D := match ds with | [.il ns, .il ms] => .il (eF 0 ns ms) | _ => .non
theorem ok_earliest {f : Addr} {fd : FuncData} (F : Fun K "earliest" "earliest" s_earliest f fd) (T : Blt mg) : FnOk P w K mg base CX0 1 f fd ["row", "other"] (spF K p_earliest g_earliest) := by
  refine fn_ok (k := 0) F sc_earliest (by rintro ds ⟨i, j, rfl, _⟩; rfl) fun cdv A outer s H E hr ds hp => ?_
  obtain ⟨ns, ms, rfl, hz, hz2⟩ := hp
  refine jss_cons (js_setOI 2 joi_nil ?_ sc_earliest.nd)
  refine jss_cons (js_for (fun rest ρ => ∃ (i : Nat) (rs f : List Int) (x y : Option Lf.E), i + rs.length ≤ ns.length ∧ f.length ≤ ms.length ∧ f.length ≤ i ∧ f ++ eF i rs (ms.drop f.length) = eF 0 ns ms ∧ rest = enumF i rs ∧ ρ = [some (.v .imm (.il ns)), some (.v .imm (.il ms)), some (Lf.E.ownI f), x, y]) (ji_enum T.enumerate (je_v 0 rfl)) ⟨0, ns, [], none, none, by omega, Nat.zero_le _, Nat.zero_le _, rfl, enumI_eq ns, rfl⟩ (fun d rest ρ' hv => ?_) (fun ρ' hv => ?_))
  · obtain ⟨i, rs, f, x, y, hi, hf, hfi, he, hrest, rfl⟩ := hv
    cases rs with
    | nil => cases hrest
    | cons r rs =>
      obtain ⟨rfl, rfl⟩ := List.cons.inj hrest
      rw [List.length_cons] at hi
      refine ⟨_, jg_pair 3 4 sc_earliest.nd, ?_⟩
      refine jss_one (js_if (JW.pt (jw_and (jt_c (jc_lt (je_len T.len (je_oI 2 rfl)) (je_len T.len (je_v 1 rfl)))) (fun c => (jw_and1 (jt_c (jc_eq (je_ixI (je_v 1 rfl) (je_len T.len (je_oI 2 rfl)) (inR_at rfl (by have := of_decide_eq_true c; omega))) (je_v 4 rfl))))))) (fun c => ?_) (fun c => ?_))
      · rw [Bool.and_eq_true, decide_eq_true_eq, decide_eq_true_eq] at c
        have hlt : f.length < ms.length := by omega
        refine jss_one (js_appI 2 rfl (je_v 3 rfl) ?_ (by omega))
        refine ⟨i + 1, rs, f ++ [(i : Int)], some (.v .frs (.int i)), some (.v .frs (.int r)), by omega, by simp; omega, by simp; omega, ?_, rfl, rfl⟩
        rw [← he]
        have ed : ms.drop f.length = ms[f.length] :: ms.drop (f.length + 1) := List.drop_eq_getElem_cons hlt
        have eg : ms[f.length] = r := by
          have := c.2
          rw [gI_at rfl, List.getD_eq_getElem?_getD, List.getElem?_eq_getElem hlt] at this
          exact this
        rw [ed, eg, List.append_assoc, List.length_append, List.length_singleton]
        congr 1
        show [(i : Int)] ++ eF ((i + 1 : Nat) : Int) rs (ms.drop (f.length + 1)) = if r = r then (i : Int) :: eF ((i : Int) + 1) rs (ms.drop (f.length + 1)) else _
        rw [if_pos rfl]
        rfl
      · refine jss_nil ⟨i + 1, rs, f, some (.v .frs (.int i)), some (.v .frs (.int r)), by omega, hf, by omega, ?_, rfl, rfl⟩
        rw [← he]
        congr 1
        by_cases hlt : f.length < ms.length
        · have ed : ms.drop f.length = ms[f.length] :: ms.drop (f.length + 1) := List.drop_eq_getElem_cons hlt
          have eg : ¬ ms[f.length] = r := fun z => by
            rw [decide_eq_true (show (f.length : Int) < ms.length by omega), Bool.true_and, decide_eq_false_iff_not] at c
            rw [gI_at rfl, List.getD_eq_getElem?_getD, List.getElem?_eq_getElem hlt] at c
            exact c z
          rw [ed]
          show eF ((i + 1 : Nat) : Int) rs _ = if ms[f.length] = r then _ else eF ((i : Int) + 1) rs _
          rw [if_neg eg]
          rfl
        · rw [List.drop_eq_nil_of_le (by omega), eF_nil, eF_nil]
  · obtain ⟨i, rs, f, x, y, hi, hf, hfi, he, hrest, rfl⟩ := hv
    cases rs with
    | cons r rs => cases hrest
    | nil =>
      refine jss_one (js_retO 2 rfl ?_)
      have : f = eF 0 ns ms := by
        rw [← he]
        show f = f ++ []
        rw [List.append_nil]
      exact congrArg D.il this
theorem sc_are_rising : FnScope ["places", "many", "last", "place"] ["places", "many"] (defScope s_are_rising) := ⟨rfl, rfl, rfl, by decide +kernel, rfl, by decide +kernel, by decide +kernel⟩
def p_are_rising (ds : List D) : Prop := ∃ (ps : List Int) (m : Int), ds = [.il ps, .int m]
def g_are_rising (ds : List D) : D := match ds with | [.il ps, .int m] => .bl (risF (-1) m ps) | _ => .non
theorem ok_are_rising {f : Addr} {fd : FuncData} (F : Fun K "are_rising" "are_rising" s_are_rising f fd) (T : Blt mg) : FnOk P w K mg base CX0 1 f fd ["places", "many"] (spF K p_are_rising g_are_rising) := by
  refine fn_ok (k := 0) F sc_are_rising (by rintro ds ⟨i, j, rfl⟩; rfl) fun cdv A outer s H E hr ds hp => ?_
  obtain ⟨ps, m, rfl⟩ := hp
  refine jss_cons (js_set 2 (je_neg je_int) ?_ (by decide) sc_are_rising.nd)
  refine jss_cons (js_forI (fun rest ρ => ∃ (l : Int) (x : Option Lf.E), risF l m rest = risF (-1) m ps ∧ ρ = [some (.v .imm (.il ps)), some (.v .imm (.int m)), some (Lf.E.v .frs (.int l)), x]) (ji_list (je_v 0 rfl)) ⟨_, none, rfl, rfl⟩ (fun d rest ρ' hv => ?_) (fun ρ' hv => ?_))
  · obtain ⟨l, x, he, rfl⟩ := hv
    refine ⟨_, jg_name 3 sc_are_rising.nd, ?_⟩
    refine jss_cons (js_if (jt_not (jt_ltlt (je_v 2 rfl) (je_v 3 rfl) (je_v 1 rfl))) (fun c => ?_) (fun c => ?_))
    · refine jss_one (js_ret je_bl ?_)
      show D.bl false = .bl (risF (-1) m ps)
      rw [← he, risF]
      have : decide (l < d ∧ d < m) = false := decide_eq_false fun z => by
        have c' : d ≤ l ∨ m ≤ d := by simpa using c
        omega
      rw [this]
      rfl
    refine jss_nil ?_
    refine jss_one (js_set 2 (je_v 3 rfl) ?_ (by decide) sc_are_rising.nd)
    refine ⟨d, some (.v .frs (.int d)), ?_, rfl⟩
    rw [← he, risF]
    have : decide (l < d ∧ d < m) = true := by simpa using c
    rw [this]
    rfl
  · obtain ⟨l, x, he, rfl⟩ := hv
    refine jss_one (js_ret je_bl ?_)
    show D.bl true = .bl (risF (-1) m ps)
    rw [← he]
    rfl
theorem sc_stands : FnScope ["row", "places", "other", "place"] ["row", "places", "other"] (defScope s_stands) := ⟨rfl, rfl, rfl, by decide +kernel, rfl, by decide +kernel, by decide +kernel⟩
def p_stands (ds : List D) : Prop := ∃ ns ps ms : List Int, ds = [.il ns, .il ps, .il ms] ∧ ns.length ≤ 1000
def g_stands (ds : List D) : D := match ds with | [.il ns, .il ps, .il ms] => .bl (stdF ns ps ms) | _ => .non
theorem ok_stands {f : Addr} {fd : FuncData} (F : Fun K "stands" "stands" s_stands f fd) (T : Blt mg) (C_are_rising : Callee P w K mg base 1 "are_rising" p_are_rising g_are_rising) : FnOk P w K mg base CX0 2 f fd ["row", "places", "other"] (spF K p_stands g_stands) := by
  refine fn_ok (k := 1) F sc_stands (by rintro ds ⟨i, j, k, rfl, _⟩; rfl) fun cdv A outer s H E hr ds hp => ?_
  obtain ⟨ns, ps, ms, rfl, hz⟩ := hp
  have hu : (A.deeper (PyProof.Rows.envOfC "stands" (defScope s_stands) s.heap.objs.size f cdv)).units + 64 < cLine := hr.units
  refine jss_cons (js_if (JW.pt (jw_or (jt_not (jt_v (v := risF (-1) ns.length ps) (je_call C_are_rising hr (ja_cons (je_v 1 rfl) (ja_cons (je_len T.len (je_v 0 rfl)) ja_nil)) ⟨_, _, rfl⟩))) (fun _ => (jw_or1 (jt_c (jc_ne (je_len T.len (je_v 1 rfl)) (je_len T.len (je_v 2 rfl)))))))) (fun c => ?_) (fun c => ?_))
  · refine jss_one (js_ret je_bl ?_)
    show D.bl false = .bl (stdF ns ps ms)
    unfold stdF
    by_cases h : risF (-1) ns.length ps = true
    · rw [h, Bool.not_true, Bool.false_or] at c
      have c' : ¬ ps.length = ms.length := by
        have c' : ¬ (ps.length : Int) = ms.length := by simpa using c
        omega
      rw [decide_eq_false c', Bool.false_and, Bool.and_false]
    · rw [Bool.eq_false_iff.mpr h, Bool.false_and]
  refine jss_nil ?_
  rw [Bool.or_eq_false_iff] at c
  obtain ⟨c1, c2⟩ := c
  have h1 : risF (-1) ns.length ps = true := by simpa using c1
  have h2 : ps.length = ms.length := by
    have c' : (ps.length : Int) = ms.length := by simpa using c2
    omega
  have hm := risF_mem _ ps (-1) (by omega) h1
  have hl : ps.length ≤ 1000 := by
    cases ns with
    | nil =>
      cases ps with
      | nil => simp
      | cons p r => have := hm p (List.mem_cons_self ..); simp at this; omega
    | cons n r =>
      have := risF_len _ ps (-1) (by omega) (by rw [List.length_cons]; omega) h1
      omega
  refine jss_one (js_ret (je_c (jc_eqL hu (JOI.je (joi_mapI (x := "place") (n := 3) (f := gI ns) (ji_list (je_v 1 rfl)) (fun _ _ _ _ _ _ => jgb_name 3 sc_stands.nd) (fun k hk _ _ _ _ _ => (je_ixI (je_v 0 rfl) (je_v 3 rfl) ⟨by have := hm k hk; omega, (hm k hk).2⟩)) sc_stands.nd (blkOk_by (N := ["row", "places", "other", "place"]) (sc := defScope s_stands) (by decide +kernel)) (by omega))) (je_v 2 rfl))) ?_)
  show D.bl _ = .bl (stdF ns ps ms)
  unfold stdF
  rw [h1, decide_eq_true h2]
  rfl
theorem sc_law_stands : FnScope ["_law_row_here", "_law_places", "_law_other", "_law_last", "_law_place", "_law_sign"] ["_law_row_here", "_law_places", "_law_other"] (defScope s_law_stands) := ⟨rfl, rfl, rfl, by decide +kernel, rfl, by decide +kernel, by decide +kernel⟩
def p_law_stands (ds : List D) : Prop := ∃ ns ps ms : List Int, ds = [.il ns, .il ps, .il ms]
def g_law_stands (ds : List D) : D := match ds with | [.il ns, .il ps, .il ms] => .bl (stdF ns ps ms) | _ => .non
theorem ok_law_stands {f : Addr} {fd : FuncData} (F : Fun K "_law_stands" "_law_stands" s_law_stands f fd) (T : Blt mg) : FnOk P w K mg base CX0 1 f fd ["_law_row_here", "_law_places", "_law_other"] (spF K p_law_stands g_law_stands) := by
  refine fn_ok (k := 0) F sc_law_stands (by rintro ds ⟨i, j, k, rfl⟩; rfl) fun cdv A outer s H E hr ds hp => ?_
  obtain ⟨ns, ps, ms, rfl⟩ := hp
  refine jss_cons (js_if (jt_c (jc_ne (je_len T.len (je_v 1 rfl)) (je_len T.len (je_v 2 rfl)))) (fun c => ?_) (fun c => ?_))
  · refine jss_one (js_ret je_bl ?_)
    show D.bl false = .bl (stdF ns ps ms)
    unfold stdF
    have c' : ¬ ps.length = ms.length := by
      have c' : ¬ (ps.length : Int) = ms.length := by simpa using c
      omega
    rw [decide_eq_false c', Bool.false_and, Bool.and_false]
  refine jss_nil ?_
  have hl : ps.length = ms.length := by
    have c' : (ps.length : Int) = ms.length := by simpa using c
    omega
  have hst : stdF ns ps ms = lsF ns (-1) ps ms := by
    rw [lsF_eq _ _ _ _ hl]
    unfold stdF
    rw [decide_eq_true hl]
    rfl
  refine jss_cons (js_set 3 (je_neg je_int) ?_ (by decide) sc_law_stands.nd)
  refine jss_cons (js_for (fun rest ρ => ∃ (l : Int) (p o : List Int) (x y : Option Lf.E), lsF ns l p o = stdF ns ps ms ∧ -1 ≤ l ∧ rest = zipI p o ∧ ρ = [some (.v .imm (.il ns)), some (.v .imm (.il ps)), some (.v .imm (.il ms)), some (Lf.E.v .frs (.int l)), x, y]) (ji_zip T.zip (je_v 1 rfl) (je_v 2 rfl)) ⟨-1, ps, ms, none, none, hst.symm, Int.le_refl _, rfl, rfl⟩ (fun d rest ρ' hv => ?_) (fun ρ' hv => ?_))
  · obtain ⟨l, p, o, x, y, he, h0, hrest, rfl⟩ := hv
    cases p with
    | nil => cases hrest
    | cons p0 p =>
      cases o with
      | nil => cases hrest
      | cons o0 o =>
        obtain ⟨rfl, rfl⟩ := List.cons.inj hrest
        refine ⟨_, jg_pair 4 5 sc_law_stands.nd, ?_⟩
        refine jss_cons (js_if (JW.pt (jw_or (jt_not (jt_ltlt (je_v 3 rfl) (je_v 4 rfl) (je_len T.len (je_v 0 rfl)))) (fun c => (jw_or1 (jt_c (jc_ne (je_ixI (je_v 0 rfl) (je_v 4 rfl) (by
            have c' : l < p0 ∧ p0 < (ns.length : Int) := by simpa using c
            exact ⟨by omega, c'.2⟩)) (je_v 5 rfl))))))) (fun c => ?_) (fun c => ?_))
        · refine jss_one (js_ret je_bl ?_)
          show D.bl false = .bl (stdF ns ps ms)
          rw [← he, lsF]
          by_cases h1 : l < p0 ∧ p0 < (ns.length : Int)
          · have : ¬ gI ns p0 = o0 := by simpa [h1] using c
            rw [decide_eq_false this, Bool.and_false, Bool.false_and]
          · rw [decide_eq_false h1, Bool.false_and, Bool.false_and]
        refine jss_nil ?_
        rw [Bool.or_eq_false_iff] at c
        have h1 : l < p0 ∧ p0 < (ns.length : Int) := by simpa using c.1
        have h2 : gI ns p0 = o0 := by simpa using c.2
        refine jss_one (js_set 3 (je_v 4 rfl) ?_ (by decide) sc_law_stands.nd)
        refine ⟨p0, p, o, some (.v .frs (.int p0)), some (.v .frs (.int o0)), ?_, by omega, rfl, rfl⟩
        rw [← he]
        conv => rhs; rw [lsF, decide_eq_true h1, decide_eq_true h2]
        rfl
  · obtain ⟨l, p, o, x, y, he, h0, hrest, rfl⟩ := hv
    refine jss_one (js_ret je_bl ?_)
    show D.bl true = .bl (stdF ns ps ms)
    rw [← he]
    cases p with
    | nil => rfl
    | cons p0 p =>
      cases o with
      | nil => rfl
      | cons o0 o => cases hrest
theorem sc_law_is_left : FnScope ["_law_row_here", "_law_other", "_law_rest", "_law_sign"] ["_law_row_here", "_law_other"] (defScope s_law_is_left) := ⟨rfl, rfl, rfl, by decide +kernel, rfl, by decide +kernel, by decide +kernel⟩
def p_law_is_left (ds : List D) : Prop := ∃ ns ms : List Int, ds = [.il ns, .il ms]
def g_law_is_left (ds : List D) : D := match ds with | [.il ns, .il ms] => .bl (isLeft ns ms) | _ => .non
theorem ok_law_is_left {f : Addr} {fd : FuncData} (F : Fun K "_law_is_left" "_law_is_left" s_law_is_left f fd) (T : Blt mg) : FnOk P w K mg base CX0 1 f fd ["_law_row_here", "_law_other"] (spF K p_law_is_left g_law_is_left) := by
  refine fn_ok (k := 0) F sc_law_is_left (by rintro ds ⟨i, j, rfl⟩; rfl) fun cdv A outer s H E hr ds hp => ?_
  obtain ⟨ns, ms, rfl⟩ := hp
  have hu : (A.deeper (PyProof.Rows.envOfC "_law_is_left" (defScope s_law_is_left) s.heap.objs.size f cdv)).units + 64 < cLine := hr.units
  refine jss_cons (js_setOI 2 (joi_list T.list (je_v 1 rfl)) ?_ sc_law_is_left.nd)
  refine jss_cons (js_forI (fun rest ρ => ∃ (o : List Int) (x : Option Lf.E), lF rest o = lF ns.reverse ms.reverse ∧ ρ = [some (.v .imm (.il ns)), some (.v .imm (.il ms)), some (Lf.E.ownI o.reverse), x]) (ji_list (JOI.je (joi_rev (je_v 0 rfl)))) ⟨ms.reverse, none, rfl, by rw [List.reverse_reverse]; rfl⟩ (fun d rest ρ' hv => ?_) (fun ρ' hv => ?_))
  · obtain ⟨o, x, he, rfl⟩ := hv
    refine ⟨_, jg_name 3 sc_law_is_left.nd, ?_⟩
    refine jss_one (js_if (JW.pt (jw_and (jt_c (jc_neL hu (je_oI 2 rfl) (JOI.je joi_nil))) (fun c => (jw_and1 (jt_c (jc_eq (je_ixI (je_oI 2 rfl) (je_neg je_int) (by
        have h1 : o.reverse ≠ [] := by simpa using c
        have h2 := List.length_pos_iff.mpr h1
        exact ⟨by omega, by omega⟩)) (je_v 3 rfl))))))) (fun c => ?_) (fun c => ?_))
    · cases o with
      | nil => simp at c
      | cons o0 o =>
        rw [List.reverse_cons, gI_last] at c
        have c' : o0 = d := by simpa using c
        refine jss_one (js_popI 2 rfl ?_ (by simp))
        refine ⟨o, some (.v .frs (.int d)), ?_, ?_⟩
        · rw [← he]
          show lF rest o = if o0 = d then lF rest o else _
          rw [if_pos c']
        · rw [List.reverse_cons, List.dropLast_concat]
          rfl
    · refine jss_nil ⟨o, some (.v .frs (.int d)), ?_, rfl⟩
      rw [← he]
      cases o with
      | nil => rw [lF_nil, lF_nil]
      | cons o0 o =>
        rw [List.reverse_cons, gI_last] at c
        have c' : ¬ o0 = d := by simpa using c
        show lF rest (o0 :: o) = if o0 = d then _ else lF rest (o0 :: o)
        rw [if_neg c']
  · obtain ⟨o, x, he, rfl⟩ := hv
    refine jss_one (js_ret (je_c (jc_eqL hu (je_oI 2 rfl) (JOI.je joi_nil))) ?_)
    show D.bl (decide (o.reverse = [])) = .bl (isLeft ns ms)
    unfold isLeft
    rw [← he]
    congr 1
    apply decide_eq_decide.mpr
    show o.reverse = [] ↔ o = []
    simp
theorem sc_law_short : FnScope ["_law_row_here", "_law_other", "_law_places", "_law_many", "_law_ends", "_law_at", "_law_begin"] ["_law_row_here", "_law_other", "_law_places"] (defScope s_law_short) := ⟨rfl, rfl, rfl, by decide +kernel, rfl, by decide +kernel, by decide +kernel⟩
def p_law_short (ds : List D) : Prop := ∃ ns ms ps : List Int, ds = [.il ns, .il ms, .il ps] ∧ ns.length ≤ 1000
def g_law_short (ds : List D) : D := match ds with | [.il ns, .il ms, .il ps] => .bl (shF ns ps ms) | _ => .non
theorem ok_law_short {f : Addr} {fd : FuncData} (F : Fun K "_law_short" "_law_short" s_law_short f fd) (T : Blt mg) (C_law_stands : Callee P w K mg base 1 "_law_stands" p_law_stands g_law_stands) : FnOk P w K mg base CX0 2 f fd ["_law_row_here", "_law_other", "_law_places"] (spF K p_law_short g_law_short) := by
  refine fn_ok (k := 1) F sc_law_short (by rintro ds ⟨i, j, k, rfl, _⟩; rfl) fun cdv A outer s H E hr ds hp => ?_
  obtain ⟨ns, ms, ps, rfl, hz⟩ := hp
  have hu : (A.deeper (PyProof.Rows.envOfC "_law_short" (defScope s_law_short) s.heap.objs.size f cdv)).units + 64 < cLine := hr.units
  have ht : cutL ms none (some (ps.length : Int)) = ms.take ps.length := by rw [cutL_to _ (by omega), Int.toNat_natCast]
  refine jss_cons (js_set 3 (je_len T.len (je_v 2 rfl)) ?_ (by decide) sc_law_short.nd)
  refine jss_cons (js_if (JW.pt (jw_or (jt_c (jc_ge (je_v 3 rfl) (je_len T.len (je_v 1 rfl)))) (fun _ => (jw_or1 (jt_not (jt_v (v := stdF ns ps (ms.take ps.length)) (je_call C_law_stands hr (ja_cons (je_v 0 rfl) (ja_cons (je_v 2 rfl) (ja_cons (JOI.je (joi_cut (je_v 1 rfl) jp_none (jp_some (je_v 3 rfl)))) ja_nil))) ⟨_, _, _, rfl⟩ (by rw [ht]; rfl)))))))) (fun c => ?_) (fun c => ?_))
  · refine jss_one (js_ret je_bl ?_)
    show D.bl false = .bl (shF ns ps ms)
    unfold shF
    by_cases h : ps.length < ms.length
    · have : stdF ns ps (ms.take ps.length) = false := by
        rw [decide_eq_false (show ¬ (ms.length : Int) ≤ ps.length by omega), Bool.false_or] at c
        simpa using c
      rw [this, Bool.false_and, Bool.and_false]
    · rw [decide_eq_false h, Bool.false_and]
  refine jss_nil ?_
  rw [Bool.or_eq_false_iff] at c
  have hl : ps.length < ms.length := by have := of_decide_eq_false c.1; omega
  have hs : stdF ns ps (ms.take ps.length) = true := by simpa using c.2
  have hs' := hs
  unfold stdF at hs'
  rw [Bool.and_eq_true, Bool.and_eq_true, decide_eq_true_eq, decide_eq_true_eq] at hs'
  obtain ⟨h1, h2, h3⟩ := hs'
  have hm := risF_mem _ ps (-1) (by omega) h1
  have hpl : ps.length ≤ 1000 := by
    cases ns with
    | nil =>
      cases ps with
      | nil => simp
      | cons p r => have := hm p (List.mem_cons_self ..); simp at this; omega
    | cons n r =>
      have := risF_len _ ps (-1) (by omega) (by rw [List.length_cons]; omega) h1
      omega
  have hgap := gap2_eq ns ms ps 0 0 (Int.le_refl _) (fun p m => (hm p m).1) (by rw [List.drop_zero]; exact h3) (by omega)
  rw [Nat.zero_add] at hgap
  have hsh : shF ns ps ms = gap2 ns ms 0 0 ps := by
    unfold shF
    rw [decide_eq_true hl, hs, Bool.true_and, Bool.true_and]
    exact hgap.symm
  refine jss_cons (js_set 4 (JOI.je (joi_cat (je_v 2 rfl) (JOI.je (joi_lst (l := .frs) (ns := [_]) (ja_cons (je_len T.len (je_v 0 rfl)) ja_nil))) (by simp; omega))) ?_ (by decide) sc_law_short.nd)
  have hrg : ((ps.length : Int) + 1).toNat = ps.length + 1 := by omega
  refine jss_cons (js_forI (fun rest ρ => ∃ (i : Nat) (x y : Option Lf.E), (i ≤ ps.length → gap2 ns ms i (if (i : Int) = 0 then 0 else gI ps ((i : Int) - 1) + 1) (ps.drop i) = shF ns ps ms) ∧ (ps.length < i → shF ns ps ms = true) ∧ i ≤ ps.length + 1 ∧ rest = rngI i (ps.length + 1 - i) ∧ ρ = [some (.v .imm (.il ns)), some (.v .imm (.il ms)), some (.v .imm (.il ps)), some (Lf.E.v .frs (.int ps.length)), some (.v .frs (.il (ps ++ [(ns.length : Int)]))), x, y]) (ji_range T.range (je_add (je_v 3 rfl) je_int) (by omega) (by omega)) ⟨0, none, none, fun _ => hsh.symm, fun z => by omega, by omega, by rw [hrg]; rfl, rfl⟩ (fun d rest ρ' hv => ?_) (fun ρ' hv => ?_))
  · obtain ⟨i, x, y, hg, hgt, hi, hrest, rfl⟩ := hv
    cases hk : ps.length + 1 - i with
    | zero => rw [hk] at hrest; cases hrest
    | succ k =>
      rw [hk, rngI_cons] at hrest
      obtain ⟨rfl, rfl⟩ := List.cons.inj hrest
      have hi' : i ≤ ps.length := by omega
      refine ⟨_, jg_name 5 sc_law_short.nd, ?_⟩
      refine jss_cons (js_set 6 (je_ifI (jt_c (jc_eq (je_v 5 rfl) je_int)) (fun c => je_int) (fun c => (je_add (je_ixI (je_v 2 rfl) (je_sub (je_v 5 rfl) je_int) (by
          have c' : ¬ (i : Int) = 0 := of_decide_eq_false c
          exact ⟨by omega, by omega⟩)) je_int))) ?_ (by decide) sc_law_short.nd)
      have eb : (if decide ((i : Int) = 0) = true then (0 : Int) else gI ps ((i : Int) - 1) + 1) = if (i : Int) = 0 then 0 else gI ps ((i : Int) - 1) + 1 := by
        by_cases h : (i : Int) = 0
        · rw [if_pos (decide_eq_true h), if_pos h]
        · rw [decide_eq_false h, if_neg h]; rfl
      rw [eb]
      have hg' := hg hi'
      generalize hbe : (if (i : Int) = 0 then (0 : Int) else gI ps ((i : Int) - 1) + 1) = be at hg'
      have hstep : ∃ en : Int, gI (ps ++ [(ns.length : Int)]) i = en ∧ ∃ g' : Bool, gap2 ns ms i be (ps.drop i) = (!decide (gI ms i ∈ cutL ns (some be) (some en)) && g') ∧ (i < ps.length → g' = gap2 ns ms ((i + 1 : Nat) : Int) (if ((i + 1 : Nat) : Int) = 0 then 0 else gI ps (((i + 1 : Nat) : Int) - 1) + 1) (ps.drop (i + 1))) ∧ (i = ps.length → g' = true) := by
        by_cases h : i < ps.length
        · have ed : ps.drop i = ps[i] :: ps.drop (i + 1) := List.drop_eq_getElem_cons h
          refine ⟨_, rfl, gap2 ns ms ((i : Int) + 1) (ps[i] + 1) (ps.drop (i + 1)), ?_, fun _ => ?_, fun z => by omega⟩
          · rw [ed, gap2]
            have : gI (ps ++ [(ns.length : Int)]) (i : Int) = ps[i] := by
              rw [gI_at rfl, List.getD_eq_getElem?_getD, List.getElem?_append_left h, List.getElem?_eq_getElem h]
              rfl
            rw [this]
          · rw [if_neg (by omega)]
            have e1 : ((i + 1 : Nat) : Int) - 1 = (i : Int) := by omega
            have e2 : ((i + 1 : Nat) : Int) = (i : Int) + 1 := by omega
            rw [e1, e2, gI_at rfl, List.getD_eq_getElem?_getD, List.getElem?_eq_getElem h]
            rfl
        · have e : i = ps.length := by omega
          refine ⟨_, rfl, true, ?_, fun z => absurd z h, fun _ => rfl⟩
          rw [List.drop_eq_nil_of_le (by omega), gap2, Bool.and_true]
          have : gI (ps ++ [(ns.length : Int)]) (i : Int) = (ns.length : Int) := by
            rw [gI_at rfl, List.getD_eq_getElem?_getD, List.getElem?_append_right (by omega), e, Nat.sub_self]
            rfl
          rw [this]
      obtain ⟨en, hen, g', hg1, hg2, hg3⟩ := hstep
      refine jss_one (js_if (jt_c (jc_in (je_ixI (je_v 1 rfl) (je_v 5 rfl) (inR_at rfl (by omega))) (JOI.je (joi_cut (je_v 0 rfl) (jp_some (je_v 6 rfl)) (jp_some (je_ixI (je_v 4 rfl) (je_v 5 rfl) (inR_at rfl (by simp; omega)))))))) (fun c => ?_) (fun c => ?_))
      · refine jss_one (js_ret je_bl ?_)
        show D.bl false = .bl (shF ns ps ms)
        rw [hen] at c
        rw [← hg', hg1, c]
        rfl
      · rw [hen] at c
        have e' : shF ns ps ms = g' := by
          rw [← hg', hg1, c]
          rfl
        refine jss_nil ⟨i + 1, _, _, fun hl' => ?_, fun hgt' => ?_, by omega, ?_, rfl⟩
        · rw [e', hg2 (by omega)]
        · rw [e', hg3 (by omega)]
        · have : ps.length + 1 - (i + 1) = k := by omega
          rw [this]
          have : ((i + 1 : Nat) : Int) = (i : Int) + 1 := by omega
          rw [this]
  · obtain ⟨i, x, y, hg, hgt, hi, hrest, rfl⟩ := hv
    have hi' : ps.length < i := by
      cases hk : ps.length + 1 - i with
      | zero => omega
      | succ k => rw [hk, rngI_cons] at hrest; cases hrest
    refine jss_one (js_ret je_bl ?_)
    show D.bl true = .bl (shF ns ps ms)
    rw [hgt hi']

end
end Kc

set_option Elab.async false
set_option linter.all false
set_option maxRecDepth 100000
set_option maxHeartbeats 2000000
set_option autoImplicit false
namespace Kc
open PySem L2 Lf M1 M2
section
variable {P : Program} {w : World} {K : PySem.W.Frag} {mg : Str → Option Value} {base : Heap}
theorem gD_ils {tab : List (List Int)} {i : Int} {n : Nat} (h : i = (n : Int)) (hn : n < tab.length) : gD (tab.map D.il) i = .il (tab.getD n []) := by
  subst h
  unfold gD
  rw [if_pos (by omega), Int.toNat_natCast, List.getD_eq_getElem?_getD, List.getElem?_map, List.getD_eq_getElem?_getD, List.getElem?_eq_getElem hn]
  rfl
theorem gD_last {tab : List (List Int)} {n : Nat} (hn : tab.length = n + 1) : gD (tab.map D.il) (-1) = .il (tab.getD n []) := by
  unfold gD
  rw [if_neg (by decide), List.length_map, hn, show (-1 + ((n + 1 : Nat) : Int)).toNat = n by omega, List.getD_eq_getElem?_getD, List.getElem?_map, List.getD_eq_getElem?_getD, List.getElem?_eq_getElem (by omega)]
  rfl
theorem gI_lastN {ns : List Int} {n : Nat} (hn : ns.length = n + 1) : gI ns (-1) = ns.getD n 0 := by
  unfold gI
  rw [if_neg (by decide), hn, show (-1 + ((n + 1 : Nat) : Int)).toNat = n by omega]
section
variable {X : Cx} {e a b c : Expr} {ρ : PEnv} {la lb lc : Lv} {pos pos2 : Pos} {i j : Int} {tab : List (List Int)} {n m : Nat}
theorem je_row (ha : JE X la a ρ (ils tab)) (hb : JE X lb b ρ (.int i)) (h : i = (n : Int)) (hn : n < tab.length) (hs : PlainIx b := by exact px_ns rfl) : JE X la (.Subscript a b pos) ρ (.il (tab.getD n [])) :=
  je_ixD ha hb (by rw [List.length_map]; exact ⟨by omega, by omega⟩) (gD_ils h hn) hs
theorem je_cell (ha : JE X la a ρ (ils tab)) (hb : JE X lb b ρ (.int i)) (hc : JE X lc c ρ (.int j)) (h : i = (n : Int)) (hn : n < tab.length) (h2 : j = (m : Int)) (hm : m < (tab.getD n []).length) (hs : PlainIx b := by exact px_ns rfl) (hs2 : PlainIx c := by exact px_ns rfl) :
    JE X .frs (.Subscript (.Subscript a b pos) c pos2) ρ (.int (M2.g tab n m)) :=
  JE.eq (je_ixI (je_row ha hb h hn hs) hc ⟨by omega, by omega⟩ hs2) (by unfold M2.g; rw [gI_at h2])
theorem je_lastRow (ha : JE X la a ρ (ils tab)) (hb : JE X lb b ρ (.int (-1))) (hn : tab.length = n + 1) (hs : PlainIx b := by exact px_ns rfl) : JE X la (.Subscript a b pos) ρ (.il (tab.getD n [])) :=
  je_ixD ha hb (by rw [List.length_map]; exact ⟨by omega, by omega⟩) (gD_last hn) hs
theorem je_lastCell (ha : JE X la a ρ (ils tab)) (hb : JE X lb b ρ (.int (-1))) (hc : JE X lc c ρ (.int (-1))) (hn : tab.length = n + 1) (hm : (tab.getD n []).length = m + 1) (hs : PlainIx b := by exact px_ns rfl) (hs2 : PlainIx c := by exact px_ns rfl) :
    JE X .frs (.Subscript (.Subscript a b pos) c pos2) ρ (.int (M2.g tab n m)) :=
  JE.eq (je_ixI (je_lastRow ha hb hn hs) hc ⟨by omega, by omega⟩ hs2) (by unfold M2.g; rw [gI_lastN hm])
theorem je_lenT2 {p : Pos} (hm : X.mg "len" = none) (ha : JE X la e ρ (ils tab)) (hg : Gl X "len" := by rfl) (he : starEach [e] X.env = (false, eval e X.env) :: starEach [] X.env := by exact star_c rfl) (hpl : (backTo pos (starEach [] X.env)).any (·.1) = false := by exact back_ns rfl) :
    JE X .frs (.Call (.Name "len" p) [e] [] pos) ρ (.int tab.length) := JE.eq (je_lenD hm ha hg he hpl) (by rw [List.length_map])
end
def lenF (m : Nat) (d : D) : Bool := match d with | .il l => decide ((l.length : Int) = (m : Int) + 1) | _ => false
theorem lens_true {tab : List (List Int)} {m : Nat} (h : ((tab.map D.il).map (lenF m)).all id = true) : ∀ l, l ∈ tab → l.length = m + 1 := by
  intro l hl
  rw [List.all_eq_true] at h
  have := h (lenF m (.il l)) (List.mem_map.mpr ⟨_, List.mem_map.mpr ⟨l, hl, rfl⟩, rfl⟩)
  have := of_decide_eq_true (show decide ((l.length : Int) = (m : Int) + 1) = true from this)
  omega
theorem lens_false {tab : List (List Int)} {m : Nat} (h : ((tab.map D.il).map (lenF m)).all id = false) : ∃ i, i < tab.length ∧ (tab.getD i []).length ≠ m + 1 := by
  apply Classical.byContradiction
  intro hc
  have : ((tab.map D.il).map (lenF m)).all id = true := by
    rw [List.all_eq_true]
    intro b hb
    obtain ⟨d, hd, rfl⟩ := List.mem_map.mp hb
    obtain ⟨l, hl, rfl⟩ := List.mem_map.mp hd
    obtain ⟨i, hi, rfl⟩ := List.getElem_of_mem hl
    apply decide_eq_true
    have : ¬ (tab.getD i []).length ≠ m + 1 := fun z => hc ⟨i, hi, z⟩
    rw [List.getD_eq_getElem?_getD, List.getElem?_eq_getElem hi] at this
    have : (tab[i]).length = m + 1 := Classical.byContradiction this
    omega
  rw [this] at h
  cases h
theorem getD_mem {tab : List (List Int)} {i : Nat} (h : i < tab.length) : tab.getD i [] ∈ tab := by
  rw [List.getD_eq_getElem?_getD, List.getElem?_eq_getElem h]
  exact List.getElem_mem h
theorem sc_is_table : FnScope ["one", "other", "table", "i", "j", "floor", "line"] ["one", "other", "table"] (defScope s_is_table) := ⟨rfl, rfl, rfl, by decide +kernel, rfl, by decide +kernel, by decide +kernel⟩
def p_is_table (ds : List D) : Prop := ∃ (ns ms : List Int) (tab : List (List Int)), ds = [.il ns, .il ms, ils tab] ∧ ns.length ≤ 1000 ∧ ms.length ≤ 1000
noncomputable def g_is_table (ds : List D) : D := match ds with | [.il ns, .il ms, .lst t] => .bl (dec (∃ tab, t = tab.map D.il ∧ TabOk ns ms tab)) | _ => .non
theorem map_il_inj {s t : List (List Int)} (h : s.map D.il = t.map D.il) : s = t := by
  have : ∀ (s t : List (List Int)), s.map D.il = t.map D.il → s = t := by
    intro s
    induction s with
    | nil => intro t h; cases t with | nil => rfl | cons _ _ => cases h
    | cons x s ih =>
      intro t h
      cases t with
      | nil => cases h
      | cons y t =>
        obtain ⟨h1, h2⟩ := List.cons.inj h
        cases h1
        rw [ih t h2]
  exact this s t h
theorem g_tab (ns ms : List Int) (tab : List (List Int)) : g_is_table [.il ns, .il ms, ils tab] = .bl (dec (TabOk ns ms tab)) := by
  show D.bl (dec _) = _
  congr 1
  exact dec_iff ⟨fun ⟨t, h, q⟩ => by rw [map_il_inj h]; exact q, fun q => ⟨tab, rfl, q⟩⟩
theorem ok_is_table {f : Addr} {fd : FuncData} (F : Fun K "is_table" "is_table" s_is_table f fd) (T : Blt mg) : FnOk P w K mg base CX0 1 f fd ["one", "other", "table"] (spF K p_is_table g_is_table) := by
  refine fn_ok (k := 0) F sc_is_table (by rintro ds ⟨i, j, k, rfl, _⟩; rfl) fun cdv A outer s H E hr ds hp => ?_
  obtain ⟨ns, ms, tab, rfl, hz, hz2⟩ := hp
  rw [g_tab]
  refine jss_cons (js_if (JW.pt (jw_or (jt_c (jc_ne (je_lenT2 T.len (je_v 2 rfl)) (je_add (je_len T.len (je_v 0 rfl)) je_int))) (fun c => (jw_or1 (jt_not (jt_v (v := ((tab.map D.il).map (lenF ms.length)).all id) (je_all T.all (JO.je (jo_mapDB (x := "line") (n := 6) (f := lenF ms.length) (ji_lst (je_v 2 rfl)) (fun _ _ _ _ _ _ _ => jgb_name 6 sc_is_table.nd) (fun d hd _ _ _ _ _ => by
      obtain ⟨l, _, rfl⟩ := List.mem_map.mp hd
      exact (je_c (jc_eq (je_len T.len (je_v 6 rfl)) (je_add (je_len T.len (je_v 1 rfl)) je_int)))) sc_is_table.nd (blkOk_by (N := ["one", "other", "table", "i", "j", "floor", "line"]) (sc := defScope s_is_table) (by decide +kernel)) (by
      have c' : (tab.length : Int) = (ns.length : Int) + 1 := by simpa using c
      rw [List.length_map]; omega)))))))))) (fun c => ?_) (fun c => ?_))
  · refine jss_one (js_ret je_bl ?_)
    congr 1
    symm
    apply dec_f
    intro t
    have h1 : (tab.length : Int) = (ns.length : Int) + 1 := by have := t.n; omega
    rw [decide_eq_true h1] at c
    have c' : ((tab.map D.il).map (lenF ms.length)).all id = false := by simpa using c
    obtain ⟨i, hi, hne⟩ := lens_false c'
    exact hne (t.m i (by have := t.n; omega))
  refine jss_nil ?_
  rw [Bool.or_eq_false_iff] at c
  have hn : tab.length = ns.length + 1 := by
    have c' : (tab.length : Int) = (ns.length : Int) + 1 := by simpa using c.1
    omega
  have hrow := lens_true (tab := tab) (m := ms.length) (by simpa using c.2)
  have hm : ∀ i, i ≤ ns.length → (tab.getD i []).length = ms.length + 1 := fun i hi => hrow _ (getD_mem (by omega))
  refine jss_cons (js_forI (fun rest ρ => ∃ (i : Nat) (x3 x4 x5 : Option Lf.E), i ≤ ns.length + 1 ∧ rest = rngI i (ns.length + 1 - i) ∧ (∀ i' j, i' < i → j ≤ ms.length → CellOk ns ms tab i' j) ∧ ρ = [some (.v .imm (.il ns)), some (.v .imm (.il ms)), some (Lf.E.v .imm (ils tab)), x3, x4, x5, none]) (ji_range T.range (je_add (je_len T.len (je_v 0 rfl)) je_int) (by omega) (by omega)) ⟨0, none, none, none, by omega, by rw [show ((ns.length : Int) + 1).toNat = ns.length + 1 by omega]; rfl, fun _ _ h => absurd h (Nat.not_lt_zero _), rfl⟩ (fun d rest ρ' hv => ?_) (fun ρ' hv => ?_))
  · obtain ⟨i, x3, x4, x5, hi, hrest, hc, rfl⟩ := hv
    cases hk : ns.length + 1 - i with
    | zero => rw [hk] at hrest; cases hrest
    | succ k =>
      rw [hk, rngI_cons] at hrest
      obtain ⟨rfl, rfl⟩ := List.cons.inj hrest
      have hi' : i ≤ ns.length := by omega
      refine ⟨_, jg_name 3 sc_is_table.nd, ?_⟩
      refine jss_one (js_forI (fun rest2 ρ => ∃ (j : Nat) (x4 x5 : Option Lf.E), j ≤ ms.length + 1 ∧ rest2 = rngI j (ms.length + 1 - j) ∧ (∀ j', j' < j → CellOk ns ms tab i j') ∧ ρ = [some (.v .imm (.il ns)), some (.v .imm (.il ms)), some (Lf.E.v .imm (ils tab)), some (.v .frs (.int i)), x4, x5, none]) (ji_range T.range (je_add (je_len T.len (je_v 1 rfl)) je_int) (by omega) (by omega)) ⟨0, _, _, by omega, by rw [show ((ms.length : Int) + 1).toNat = ms.length + 1 by omega]; rfl, fun _ h => absurd h (Nat.not_lt_zero _), rfl⟩ (fun d2 rest2 ρ' hv => ?_) (fun ρ' hv => ?_))
      · obtain ⟨j, y4, y5, hj, hrest2, hc2, rfl⟩ := hv
        cases hk2 : ms.length + 1 - j with
        | zero => rw [hk2] at hrest2; cases hrest2
        | succ k2 =>
          rw [hk2, rngI_cons] at hrest2
          obtain ⟨rfl, rfl⟩ := List.cons.inj hrest2
          have hj' : j ≤ ms.length := by omega
          have hmi := hm i hi'
          refine ⟨_, jg_name 4 sc_is_table.nd, ?_⟩
          refine jss_cons (js_set 5 je_int ?_ (by decide) sc_is_table.nd)
          refine jss_cons (js_cut (fun ρ => ρ = [some (.v .imm (.il ns)), some (.v .imm (.il ms)), some (Lf.E.v .imm (ils tab)), some (.v .frs (.int i)), some (.v .frs (.int j)), some (.v .frs (.int (if 0 < i then mx 0 (g tab (i - 1) j) else 0))), none]) (js_if (jt_c (jc_gt (je_v 3 rfl) je_int)) (fun c => ?_) (fun c => ?_)) (fun ρ' hρ => ?_))
          · have h0 : 0 < i := by have := of_decide_eq_true c; omega
            have hmi1 := hm (i - 1) (by omega)
            refine jss_one (js_set 5 (je_max T.max (je_v 5 rfl) (je_cell (n := i - 1) (m := j) (je_v 2 rfl) (je_sub (je_v 3 rfl) je_int) (je_v 4 rfl) (by omega) (by omega) rfl (by omega))) ?_ (by decide) sc_is_table.nd)
            rw [if_pos h0]
            rfl
          · have h0 : ¬ 0 < i := by have := of_decide_eq_false c; omega
            refine jss_nil ?_
            rw [if_neg h0]
            rfl
          subst hρ
          generalize hf1 : (if 0 < i then mx 0 (g tab (i - 1) j) else (0 : Int)) = f1
          refine jss_cons (js_cut (fun ρ => ρ = [some (.v .imm (.il ns)), some (.v .imm (.il ms)), some (Lf.E.v .imm (ils tab)), some (.v .frs (.int i)), some (.v .frs (.int j)), some (.v .frs (.int (if 0 < j then mx f1 (g tab i (j - 1)) else f1))), none]) (js_if (jt_c (jc_gt (je_v 4 rfl) je_int)) (fun c => ?_) (fun c => ?_)) (fun ρ' hρ => ?_))
          · have h0 : 0 < j := by have := of_decide_eq_true c; omega
            refine jss_one (js_set 5 (je_max T.max (je_v 5 rfl) (je_cell (n := i) (m := j - 1) (je_v 2 rfl) (je_v 3 rfl) (je_sub (je_v 4 rfl) je_int) rfl (by omega) (by omega) (by omega))) ?_ (by decide) sc_is_table.nd)
            rw [if_pos h0]
            rfl
          · have h0 : ¬ 0 < j := by have := of_decide_eq_false c; omega
            refine jss_nil ?_
            rw [if_neg h0]
          subst hρ
          generalize hf2 : (if 0 < j then mx f1 (g tab i (j - 1)) else f1) = f2
          refine jss_cons (js_cut (fun ρ => ρ = [some (.v .imm (.il ns)), some (.v .imm (.il ms)), some (Lf.E.v .imm (ils tab)), some (.v .frs (.int i)), some (.v .frs (.int j)), some (.v .frs (.int (if 0 < i ∧ 0 < j ∧ ns.getD (i - 1) 0 = ms.getD (j - 1) 0 then mx f2 (g tab (i - 1) (j - 1) + 1) else f2))), none]) (js_if (JW.pt (jw_and (jt_c (jc_gt (je_v 3 rfl) je_int)) (fun c1 => (jw_and (jt_c (jc_gt (je_v 4 rfl) je_int)) (fun c2 => (jw_and1 (jt_c (jc_eq (je_ixI (je_v 0 rfl) (je_sub (je_v 3 rfl) je_int) (by have := of_decide_eq_true c1; exact ⟨by omega, by omega⟩)) (je_ixI (je_v 1 rfl) (je_sub (je_v 4 rfl) je_int) (by have := of_decide_eq_true c2; exact ⟨by omega, by omega⟩)))))))))) (fun c => ?_) (fun c => ?_)) (fun ρ' hρ => ?_))
          · rw [Bool.and_eq_true, Bool.and_eq_true, decide_eq_true_eq, decide_eq_true_eq, decide_eq_true_eq] at c
            have h0 : 0 < i := by omega
            have h1 : 0 < j := by omega
            have hmi1 := hm (i - 1) (by omega)
            have he := c.2.2
            rw [gI_at (show (i : Int) - 1 = ((i - 1 : Nat) : Int) by omega), gI_at (show (j : Int) - 1 = ((j - 1 : Nat) : Int) by omega)] at he
            refine jss_one (js_set 5 (je_max T.max (je_v 5 rfl) (je_add (je_cell (n := i - 1) (m := j - 1) (je_v 2 rfl) (je_sub (je_v 3 rfl) je_int) (je_sub (je_v 4 rfl) je_int) (by omega) (by omega) (by omega) (by omega)) je_int)) ?_ (by decide) sc_is_table.nd)
            rw [if_pos ⟨h0, h1, he⟩]
            rfl
          · refine jss_nil ?_
            rw [if_neg]
            rintro ⟨h0, h1, he⟩
            rw [gI_at (show (i : Int) - 1 = ((i - 1 : Nat) : Int) by omega), gI_at (show (j : Int) - 1 = ((j - 1 : Nat) : Int) by omega), decide_eq_true (show (0 : Int) < (i : Int) by omega), decide_eq_true (show (0 : Int) < (j : Int) by omega), decide_eq_true he] at c
            cases c
          subst hρ
          generalize hf3 : (if 0 < i ∧ 0 < j ∧ ns.getD (i - 1) 0 = ms.getD (j - 1) 0 then mx f2 (g tab (i - 1) (j - 1) + 1) else f2) = f3
          have m1 := mx_le 0 (g tab (i - 1) j)
          have m2 := mx_le f1 (g tab i (j - 1))
          have m3 := mx_le f2 (g tab (i - 1) (j - 1) + 1)
          refine jss_one (js_if (jt_c (jc_lt (je_cell (n := i) (m := j) (je_v 2 rfl) (je_v 3 rfl) (je_v 4 rfl) rfl (by omega) rfl (by omega)) (je_v 5 rfl))) (fun c => ?_) (fun c => ?_))
          · refine jss_one (js_ret je_bl ?_)
            congr 1
            symm
            apply dec_f
            intro t
            obtain ⟨q1, q2, q3, q4⟩ := t.c i j hi' hj'
            have c' := of_decide_eq_true c
            have e1 : f1 ≤ g tab i j := by
              rw [← hf1]
              split
              · rename_i h
                have := q2 h
                omega
              · exact q1
            have e2 : f2 ≤ g tab i j := by
              rw [← hf2]
              split
              · rename_i h
                have := q3 h
                omega
              · exact e1
            have e3 : f3 ≤ g tab i j := by
              rw [← hf3]
              split
              · rename_i h
                have := q4 h.1 h.2.1 h.2.2
                omega
              · exact e2
            omega
          · refine jss_nil ⟨j + 1, _, _, by omega, ?_, fun j' h => ?_, rfl⟩
            · rw [show ms.length + 1 - (j + 1) = k2 by omega, show ((j + 1 : Nat) : Int) = (j : Int) + 1 by omega]
            · by_cases h' : j' < j
              · exact hc2 j' h'
              · have : j' = j := by omega
                subst this
                have c' := of_decide_eq_false c
                have e3 : f2 ≤ f3 := by
                  rw [← hf3]
                  split <;> omega
                have e2 : f1 ≤ f2 := by
                  rw [← hf2]
                  split <;> omega
                have e1 : 0 ≤ f1 := by
                  rw [← hf1]
                  split <;> omega
                refine ⟨by omega, fun h => ?_, fun h => ?_, fun h1 h2 h3 => ?_⟩
                · rw [if_pos h] at hf1
                  omega
                · rw [if_pos h] at hf2
                  omega
                · rw [if_pos ⟨h1, h2, h3⟩] at hf3
                  omega
      · obtain ⟨j, y4, y5, hj, hrest2, hc2, rfl⟩ := hv
        have hj' : ms.length < j := by
          cases hk2 : ms.length + 1 - j with
          | zero => omega
          | succ k2 => rw [hk2, rngI_cons] at hrest2; cases hrest2
        refine ⟨i + 1, _, _, _, by omega, ?_, fun i' j' h h2 => ?_, rfl⟩
        · rw [show ns.length + 1 - (i + 1) = k by omega, show ((i + 1 : Nat) : Int) = (i : Int) + 1 by omega]
        · by_cases h' : i' < i
          · exact hc i' j' h' h2
          · have : i' = i := by omega
            subst this
            exact hc2 j' (by omega)
  · obtain ⟨i, x3, x4, x5, hi, hrest, hc, rfl⟩ := hv
    have hi' : ns.length < i := by
      cases hk : ns.length + 1 - i with
      | zero => omega
      | succ k => rw [hk, rngI_cons] at hrest; cases hrest
    refine jss_one (js_ret je_bl ?_)
    congr 1
    symm
    exact dec_t ⟨hn, hm, fun i' j' h1 h2 => hc i' j' (by omega) h2⟩
theorem sc_law_table : FnScope ["_law_one", "_law_other", "_law_table_here", "_law_i", "_law_j"] ["_law_one", "_law_other", "_law_table_here"] (defScope s_law_table) := ⟨rfl, rfl, rfl, by decide +kernel, rfl, by decide +kernel, by decide +kernel⟩
theorem ok_law_table {f : Addr} {fd : FuncData} (F : Fun K "_law_table" "_law_table" s_law_table f fd) (T : Blt mg) : FnOk P w K mg base CX0 1 f fd ["_law_one", "_law_other", "_law_table_here"] (spF K p_is_table g_is_table) := by
  refine fn_ok (k := 0) F sc_law_table (by rintro ds ⟨i, j, k, rfl, _⟩; rfl) fun cdv A outer s H E hr ds hp => ?_
  obtain ⟨ns, ms, tab, rfl, hz, hz2⟩ := hp
  have hu : (A.deeper (PyProof.Rows.envOfC "_law_table" (defScope s_law_table) s.heap.objs.size f cdv)).units + 64 < cLine := hr.units
  rw [g_tab]
  refine jss_cons (js_if (JW.pt (jw_or (jt_c (jc_ne (je_lenT2 T.len (je_v 2 rfl)) (je_add (je_len T.len (je_v 0 rfl)) je_int))) (fun c => (jw_or (jt_c (jc_eqL hu (je_row (n := 0) (je_v 2 rfl) je_int rfl (by
      have c' : (tab.length : Int) = (ns.length : Int) + 1 := by simpa using c
      omega)) (JOI.je joi_nil))) (fun c2 => (jw_or1 (jt_c (jc_lt (je_cell (n := 0) (m := 0) (je_v 2 rfl) je_int je_int rfl (by
      have c' : (tab.length : Int) = (ns.length : Int) + 1 := by simpa using c
      omega) rfl (List.length_pos_iff.mpr (by simpa using c2))) je_int)))))))) (fun c => ?_) (fun c => ?_))
  · refine jss_one (js_ret je_bl ?_)
    congr 1
    symm
    apply dec_f
    intro t
    have h1 : (tab.length : Int) = (ns.length : Int) + 1 := by have := t.n; omega
    have h2 : ¬ tab.getD 0 [] = [] := fun z => by
      have := t.m 0 (by omega)
      rw [z] at this
      cases this
    have h3 := (t.c 0 0 (by omega) (by omega)).z
    rw [decide_eq_true h1, decide_eq_false h2, decide_eq_false (show ¬ g tab 0 0 < 0 by omega)] at c
    cases c
  refine jss_nil ?_
  rw [Bool.or_eq_false_iff, Bool.or_eq_false_iff] at c
  have hn : tab.length = ns.length + 1 := by
    have c' : (tab.length : Int) = (ns.length : Int) + 1 := by simpa using c.1
    omega
  have h00 : 0 ≤ g tab 0 0 := by have := of_decide_eq_false c.2.2; omega
  have hlen : ((tab.length : Nat) : Int).toNat = tab.length := by omega
  refine jss_cons (js_forI (fun rest ρ => ∃ (i : Nat) (x3 x4 : Option Lf.E), i ≤ tab.length ∧ rest = rngI i (tab.length - i) ∧ (∀ i', i' < i → (tab.getD i' []).length = ms.length + 1) ∧ (∀ i' j, i' < i → j ≤ ms.length → CellOk ns ms tab i' j) ∧ ρ = [some (.v .imm (.il ns)), some (.v .imm (.il ms)), some (Lf.E.v .imm (ils tab)), x3, x4]) (ji_range T.range (je_lenT2 T.len (je_v 2 rfl)) (by omega) (by omega)) ⟨0, none, none, by omega, by rw [hlen]; rfl, fun _ h => absurd h (Nat.not_lt_zero _), fun _ _ h => absurd h (Nat.not_lt_zero _), rfl⟩ (fun d rest ρ' hv => ?_) (fun ρ' hv => ?_))
  · obtain ⟨i, x3, x4, hi, hrest, hl, hc, rfl⟩ := hv
    cases hk : tab.length - i with
    | zero => rw [hk] at hrest; cases hrest
    | succ k =>
      rw [hk, rngI_cons] at hrest
      obtain ⟨rfl, rfl⟩ := List.cons.inj hrest
      have hi' : i ≤ ns.length := by omega
      refine ⟨_, jg_name 3 sc_law_table.nd, ?_⟩
      refine jss_cons (js_if (jt_c (jc_ne (je_len T.len (je_row (n := i) (je_v 2 rfl) (je_v 3 rfl) rfl (by omega))) (je_add (je_len T.len (je_v 1 rfl)) je_int))) (fun c => ?_) (fun c => ?_))
      · refine jss_one (js_ret je_bl ?_)
        congr 1
        symm
        apply dec_f
        intro t
        have := t.m i hi'
        rw [decide_eq_true (show (((tab.getD i []).length : Nat) : Int) = (ms.length : Int) + 1 by omega)] at c
        cases c
      refine jss_nil ?_
      have hmi : (tab.getD i []).length = ms.length + 1 := by
        have c' : (((tab.getD i []).length : Nat) : Int) = (ms.length : Int) + 1 := by
          rw [Bool.not_eq_false', decide_eq_true_eq] at c
          exact c
        omega
      have hl' : ∀ i', i' < i + 1 → (tab.getD i' []).length = ms.length + 1 := fun i' h => by
        by_cases h' : i' < i
        · exact hl i' h'
        · have : i' = i := by omega
          subst this
          exact hmi
      refine jss_one (js_forI (fun rest2 ρ => ∃ (j : Nat) (x4 : Option Lf.E), j ≤ ms.length + 1 ∧ rest2 = rngI j (ms.length + 1 - j) ∧ (∀ j', j' < j → CellOk ns ms tab i j') ∧ ρ = [some (.v .imm (.il ns)), some (.v .imm (.il ms)), some (Lf.E.v .imm (ils tab)), some (.v .frs (.int i)), x4]) (ji_range T.range (je_len T.len (je_row (n := i) (je_v 2 rfl) (je_v 3 rfl) rfl (by omega))) (by omega) (by omega)) ⟨0, _, by omega, by rw [show (((tab.getD i []).length : Nat) : Int).toNat = ms.length + 1 by omega]; rfl, fun _ h => absurd h (Nat.not_lt_zero _), rfl⟩ (fun d2 rest2 ρ' hv => ?_) (fun ρ' hv => ?_))
      · obtain ⟨j, y4, hj, hrest2, hc2, rfl⟩ := hv
        cases hk2 : ms.length + 1 - j with
        | zero => rw [hk2] at hrest2; cases hrest2
        | succ k2 =>
          rw [hk2, rngI_cons] at hrest2
          obtain ⟨rfl, rfl⟩ := List.cons.inj hrest2
          have hj' : j ≤ ms.length := by omega
          refine ⟨_, jg_name 4 sc_law_table.nd, ?_⟩
          refine jss_cons (js_if (JW.pt (jw_or (JW.pt (jw_and (jt_c (jc_gt (je_v 3 rfl) je_int)) (fun c => (jw_and1 (jt_c (jc_lt (je_cell (n := i) (m := j) (je_v 2 rfl) (je_v 3 rfl) (je_v 4 rfl) rfl (by omega) rfl (by omega)) (je_cell (n := i - 1) (m := j) (je_v 2 rfl) (je_sub (je_v 3 rfl) je_int) (je_v 4 rfl) (by have := of_decide_eq_true c; omega) (by omega) rfl (by have := hl' (i - 1) (by omega); omega)))))))) (fun _ => (jw_or1 (JW.pt (jw_and (jt_c (jc_gt (je_v 4 rfl) je_int)) (fun c => (jw_and1 (jt_c (jc_lt (je_cell (n := i) (m := j) (je_v 2 rfl) (je_v 3 rfl) (je_v 4 rfl) rfl (by omega) rfl (by omega)) (je_cell (n := i) (m := j - 1) (je_v 2 rfl) (je_v 3 rfl) (je_sub (je_v 4 rfl) je_int) rfl (by omega) (by have := of_decide_eq_true c; omega) (by omega)))))))))))) (fun c => ?_) (fun c => ?_))
          · refine jss_one (js_ret je_bl ?_)
            congr 1
            symm
            apply dec_f
            intro t
            obtain ⟨q1, q2, q3, q4⟩ := t.c i j hi' hj'
            rw [Bool.or_eq_true, Bool.and_eq_true, Bool.and_eq_true, decide_eq_true_eq, decide_eq_true_eq, decide_eq_true_eq, decide_eq_true_eq] at c
            rcases c with c | c
            · have := q2 (by omega); omega
            · have := q3 (by omega); omega
          refine jss_nil ?_
          rw [Bool.or_eq_false_iff, Bool.and_eq_false_iff, Bool.and_eq_false_iff, decide_eq_false_iff_not, decide_eq_false_iff_not, decide_eq_false_iff_not, decide_eq_false_iff_not] at c
          refine jss_one (js_if (JW.pt (jw_and (jt_c (jc_gt (je_v 3 rfl) je_int)) (fun c1 => (jw_and (jt_c (jc_gt (je_v 4 rfl) je_int)) (fun c2 => (jw_and (jt_c (jc_eq (je_ixI (je_v 0 rfl) (je_sub (je_v 3 rfl) je_int) (by have := of_decide_eq_true c1; exact ⟨by omega, by omega⟩)) (je_ixI (je_v 1 rfl) (je_sub (je_v 4 rfl) je_int) (by have := of_decide_eq_true c2; exact ⟨by omega, by omega⟩)))) (fun _ => (jw_and1 (jt_c (jc_le (je_cell (n := i) (m := j) (je_v 2 rfl) (je_v 3 rfl) (je_v 4 rfl) rfl (by omega) rfl (by omega)) (je_cell (n := i - 1) (m := j - 1) (je_v 2 rfl) (je_sub (je_v 3 rfl) je_int) (je_sub (je_v 4 rfl) je_int) (by have := of_decide_eq_true c1; omega) (by omega) (by have := of_decide_eq_true c2; omega) (by have := hl' (i - 1) (by omega); omega)))))))))))) (fun c3 => ?_) (fun c3 => ?_))
          · refine jss_one (js_ret je_bl ?_)
            congr 1
            symm
            apply dec_f
            intro t
            obtain ⟨q1, q2, q3, q4⟩ := t.c i j hi' hj'
            rw [Bool.and_eq_true, Bool.and_eq_true, Bool.and_eq_true, decide_eq_true_eq, decide_eq_true_eq, decide_eq_true_eq, decide_eq_true_eq] at c3
            obtain ⟨d1, d2, d3, d4⟩ := c3
            rw [gI_at (show (i : Int) - 1 = ((i - 1 : Nat) : Int) by omega), gI_at (show (j : Int) - 1 = ((j - 1 : Nat) : Int) by omega)] at d3
            have := q4 (by omega) (by omega) d3
            omega
          · refine jss_nil ⟨j + 1, _, by omega, ?_, fun j' h => ?_, rfl⟩
            · rw [show ms.length + 1 - (j + 1) = k2 by omega, show ((j + 1 : Nat) : Int) = (j : Int) + 1 by omega]
            · by_cases h' : j' < j
              · exact hc2 j' h'
              · have : j' = j := by omega
                subst this
                have r2 : 0 < i → g tab (i - 1) j' ≤ g tab i j' := fun h => by omega
                have r3 : 0 < j' → g tab i (j' - 1) ≤ g tab i j' := fun h => by omega
                refine ⟨?_, r2, r3, fun h1 h2 h3 => ?_⟩
                · by_cases hi0 : 0 < i
                  · have := (hc (i - 1) j' (by omega) hj').z
                    have := r2 hi0
                    omega
                  · by_cases hj0 : 0 < j'
                    · have := (hc2 (j' - 1) (by omega)).z
                      have := r3 hj0
                      omega
                    · have e1 : i = 0 := by omega
                      have e2 : j' = 0 := by omega
                      rw [e1, e2]
                      exact h00
                · rw [gI_at (show (i : Int) - 1 = ((i - 1 : Nat) : Int) by omega), gI_at (show (j' : Int) - 1 = ((j' - 1 : Nat) : Int) by omega), decide_eq_true (show (0 : Int) < (i : Int) by omega), decide_eq_true (show (0 : Int) < (j' : Int) by omega), decide_eq_true h3] at c3
                  have c4 : ¬ g tab i j' ≤ g tab (i - 1) (j' - 1) := by simpa using c3
                  omega
      · obtain ⟨j, y4, hj, hrest2, hc2, rfl⟩ := hv
        have hj' : ms.length < j := by
          cases hk2 : ms.length + 1 - j with
          | zero => omega
          | succ k2 => rw [hk2, rngI_cons] at hrest2; cases hrest2
        refine ⟨i + 1, _, _, by omega, ?_, hl', fun i' j' h h2 => ?_, rfl⟩
        · rw [show tab.length - (i + 1) = k by omega, show ((i + 1 : Nat) : Int) = (i : Int) + 1 by omega]
        · by_cases h' : i' < i
          · exact hc i' j' h' h2
          · have : i' = i := by omega
            subst this
            exact hc2 j' (by omega)
  · obtain ⟨i, x3, x4, hi, hrest, hl, hc, rfl⟩ := hv
    have hi' : tab.length ≤ i := by
      cases hk : tab.length - i with
      | zero => omega
      | succ k => rw [hk, rngI_cons] at hrest; cases hrest
    refine jss_one (js_ret je_bl ?_)
    congr 1
    symm
    exact dec_t ⟨hn, fun i' h => hl i' (by omega), fun i' j' h1 h2 => hc i' j' (by omega) h2⟩

end
end Kc

set_option Elab.async false
set_option linter.all false
set_option maxRecDepth 100000
set_option maxHeartbeats 2000000
set_option autoImplicit false
namespace Kc
open PySem L2 Lf M1 M2
section
variable {P : Program} {w : World} {K : PySem.W.Frag} {mg : Str → Option Value} {base : Heap}
/-- a class with an __init__ and a way to show; its one field -/
structure Kl (K : PySem.W.Frag) (C : Addr) (fs : List Str) : Prop where
  i : ClsI K C
  no : ∀ f, f ∈ fs → NoAttr K C f
def dLeft (C : Addr) (ps : List Int) : D := .obj C [("places", .il ps)]

end
end Kc

set_option Elab.async false
set_option linter.all false
set_option maxRecDepth 100000
set_option maxHeartbeats 2000000
set_option autoImplicit false
namespace Kc
open PySem L2 Lf M1 M2
section
variable {P : Program} {w : World} {K : PySem.W.Frag} {mg : Str → Option Value} {base : Heap}
theorem sc_Left_init : FnScope ["self", "places"] ["self", "places"] (defScope s_Left_init) := ⟨rfl, rfl, rfl, by decide +kernel, rfl, by decide +kernel, by decide +kernel⟩
def p_Left_init (ds : List D) : Prop := ∃ ps : List Int, ds = [.il ps]
def g_Left_init (C : Addr) (ds : List D) : D := match ds with | [.il ps] => dLeft C ps | _ => .non
theorem ok_Left_init {f : Addr} {fd : FuncData} {C : Addr} (F : Fun K "__init__" "Left.__init__" s_Left_init f fd) (T : Blt mg) (L : Kl K C ["places"]) : FnOk P w K mg base CX0 1 f fd ["self", "places"] (spIU K C p_Left_init (g_Left_init C)) := by
  refine fn_okI (k := 0) F sc_Left_init (by rintro ds ⟨i, rfl⟩; rfl) fun cdv A outer s H E hr b ds hp => ?_
  obtain ⟨ps, rfl⟩ := hp
  refine jss_one (js_fldU 0 rfl (JOI.ju (joi_list T.list (je_v 1 rfl))) (fun g eg og => ?_) L.i.cl (L.no _ (List.mem_cons_self ..)))
  refine ⟨_, _, rfl, ?_, ?_⟩
  · show D.obj C [("places", erase g)] = dLeft C ps
    rw [eg]
    rfl
  · show (true && (okG g && true)) = true
    rw [og]
    rfl
theorem sc_Left_shows : FnScope ["self", "row", "other"] ["self", "row", "other"] (defScope s_Left_shows) := ⟨rfl, rfl, rfl, by decide +kernel, rfl, by decide +kernel, by decide +kernel⟩
def p_Left_shows (C : Addr) (ds : List D) : Prop := ∃ ps ns ms : List Int, ds = [dLeft C ps, .il ns, .il ms] ∧ ns.length ≤ 1000
def g_Left_shows (ds : List D) : D := match ds with | [.obj _ [(_, .il ps)], .il ns, .il ms] => .bl (stdF ns ps ms) | _ => .non
theorem ok_Left_shows {f : Addr} {fd : FuncData} {C : Addr} (F : Fun K "shows" "Left.shows" s_Left_shows f fd) (T : Blt mg) (L : Kl K C ["places"]) (C_stands : Callee P w K mg base 2 "stands" p_stands g_stands) : FnOk P w K mg base CX0 3 f fd ["self", "row", "other"] (spF K (p_Left_shows C) g_Left_shows) := by
  refine fn_ok (k := 2) F sc_Left_shows (by rintro ds ⟨i, j, k, rfl, _⟩; rfl) fun cdv A outer s H E hr ds hp => ?_
  obtain ⟨ps, ns, ms, rfl, hz⟩ := hp
  exact jss_one (js_ret (je_call (d := .bl (stdF ns ps ms)) C_stands hr (ja_cons (je_v 1 rfl) (ja_cons (je_fld (d := .il ps) (je_v 0 rfl) L.i.cl (L.no _ (List.mem_cons_self ..)) rfl) (ja_cons (je_v 2 rfl) ja_nil))) ⟨_, _, _, rfl, hz⟩) rfl)
theorem sc_Short_init : FnScope ["self", "places"] ["self", "places"] (defScope s_Short_init) := ⟨rfl, rfl, rfl, by decide +kernel, rfl, by decide +kernel, by decide +kernel⟩
def p_Short_init (ds : List D) : Prop := ∃ ps : List Int, ds = [.il ps]
def g_Short_init (C : Addr) (ds : List D) : D := match ds with | [.il ps] => dLeft C ps | _ => .non
theorem ok_Short_init {f : Addr} {fd : FuncData} {C : Addr} (F : Fun K "__init__" "Short.__init__" s_Short_init f fd) (T : Blt mg) (L : Kl K C ["places"]) : FnOk P w K mg base CX0 1 f fd ["self", "places"] (spIU K C p_Short_init (g_Short_init C)) := by
  refine fn_okI (k := 0) F sc_Short_init (by rintro ds ⟨i, rfl⟩; rfl) fun cdv A outer s H E hr b ds hp => ?_
  obtain ⟨ps, rfl⟩ := hp
  refine jss_one (js_fldU 0 rfl (JOI.ju (joi_list T.list (je_v 1 rfl))) (fun g eg og => ?_) L.i.cl (L.no _ (List.mem_cons_self ..)))
  refine ⟨_, _, rfl, ?_, ?_⟩
  · show D.obj C [("places", erase g)] = dLeft C ps
    rw [eg]
    rfl
  · show (true && (okG g && true)) = true
    rw [og]
    rfl
theorem sc_Short_shows : FnScope ["self", "row", "other", "many", "begin", "place"] ["self", "row", "other"] (defScope s_Short_shows) := ⟨rfl, rfl, rfl, by decide +kernel, rfl, by decide +kernel, by decide +kernel⟩
def p_Short_shows (C : Addr) (ds : List D) : Prop := ∃ ps ns ms : List Int, ds = [dLeft C ps, .il ns, .il ms] ∧ ns.length ≤ 1000
def g_Short_shows (ds : List D) : D := match ds with | [.obj _ [(_, .il ps)], .il ns, .il ms] => .bl (shF ns ps ms) | _ => .non
theorem ok_Short_shows {f : Addr} {fd : FuncData} {C : Addr} (F : Fun K "shows" "Short.shows" s_Short_shows f fd) (T : Blt mg) (L : Kl K C ["places"]) (C_stands : Callee P w K mg base 2 "stands" p_stands g_stands) : FnOk P w K mg base CX0 3 f fd ["self", "row", "other"] (spF K (p_Short_shows C) g_Short_shows) := by
  refine fn_ok (k := 2) F sc_Short_shows (by rintro ds ⟨i, j, k, rfl, _⟩; rfl) fun cdv A outer s H E hr ds hp => ?_
  obtain ⟨ps, ns, ms, rfl, hz⟩ := hp
  have hu : (A.deeper (PyProof.Rows.envOfC "Short.shows" (defScope s_Short_shows) s.heap.objs.size f cdv)).units + 64 < cLine := hr.units
  have ht : cutL ms none (some (ps.length : Int)) = ms.take ps.length := by rw [cutL_to _ (by omega), Int.toNat_natCast]
  have fp : ∀ {X : Cx} {ρ : PEnv} {e : Expr} {pos : Pos}, X.K = K → JE X .imm e ρ (dLeft C ps) → attributeBase e "places" X.env (eval e X.env) = eval e X.env → JE X .imm (.Attribute e "places" pos) ρ (.il ps) := fun hK h hb => by
    subst hK
    exact je_fld h L.i.cl (L.no _ (List.mem_cons_self ..)) rfl hb
  refine jss_cons (js_set 3 (je_len T.len (fp rfl (je_v 0 rfl) rfl)) ?_ (by decide) sc_Short_shows.nd)
  refine jss_cons (js_if (JW.pt (jw_or (jt_c (jc_ge (je_v 3 rfl) (je_len T.len (je_v 2 rfl)))) (fun _ => (jw_or1 (jt_not (jt_v (v := stdF ns ps (ms.take ps.length)) (je_call C_stands hr (ja_cons (je_v 1 rfl) (ja_cons (fp rfl (je_v 0 rfl) rfl) (ja_cons (JOI.je (joi_cut (je_v 2 rfl) jp_none (jp_some (je_v 3 rfl)))) ja_nil))) ⟨_, _, _, rfl, hz⟩ (by rw [ht]; rfl)))))))) (fun c => ?_) (fun c => ?_))
  · refine jss_one (js_ret je_bl ?_)
    show D.bl false = .bl (shF ns ps ms)
    unfold shF
    by_cases h : ps.length < ms.length
    · have : stdF ns ps (ms.take ps.length) = false := by
        rw [decide_eq_false (show ¬ (ms.length : Int) ≤ ps.length by omega), Bool.false_or] at c
        simpa using c
      rw [this, Bool.false_and, Bool.and_false]
    · rw [decide_eq_false h, Bool.false_and]
  refine jss_nil ?_
  rw [Bool.or_eq_false_iff] at c
  have hl : ps.length < ms.length := by have := of_decide_eq_false c.1; omega
  have hs : stdF ns ps (ms.take ps.length) = true := by simpa using c.2
  have hsh : shF ns ps ms = gapF ns (gI ms ps.length) 0 ps := by
    unfold shF
    rw [decide_eq_true hl, hs, Bool.true_and, Bool.true_and]
  unfold stdF at hs
  rw [Bool.and_eq_true] at hs
  have hm := risF_mem _ ps (-1) (by omega) hs.1
  refine jss_cons (js_set 4 je_int ?_ (by decide) sc_Short_shows.nd)
  refine jss_cons (js_forI (fun rest ρ => ∃ (b : Int) (x : Option Lf.E), (∀ p, p ∈ rest → 0 ≤ p ∧ p < (ns.length : Int)) ∧ gapF ns (gI ms ps.length) b rest = shF ns ps ms ∧ ρ = [some (.v .imm (dLeft C ps)), some (.v .imm (.il ns)), some (.v .imm (.il ms)), some (Lf.E.v .frs (.int ps.length)), some (Lf.E.v .frs (.int b)), x]) (ji_list (fp rfl (je_v 0 rfl) rfl)) ⟨0, none, hm, hsh.symm, rfl⟩ (fun d rest ρ' hv => ?_) (fun ρ' hv => ?_))
  · obtain ⟨b, x, hmr, he, rfl⟩ := hv
    have hd := hmr d (List.mem_cons_self ..)
    refine ⟨_, jg_name 5 sc_Short_shows.nd, ?_⟩
    refine jss_cons (js_if (jt_c (jc_in (je_ixI (je_v 1 rfl) (je_v 5 rfl) ⟨by omega, hd.2⟩) (JOI.je (joi_cut (je_v 1 rfl) (jp_some (je_v 4 rfl)) (jp_some (je_v 5 rfl)))))) (fun c => ?_) (fun c => ?_))
    · refine jss_one (js_ret je_bl ?_)
      show D.bl false = .bl (shF ns ps ms)
      rw [← he, gapF, c]
      rfl
    refine jss_nil ?_
    refine jss_one (js_set 4 (je_add (je_v 5 rfl) je_int) ?_ (by decide) sc_Short_shows.nd)
    refine ⟨d + 1, _, fun p m => hmr p (List.mem_cons_of_mem _ m), ?_, rfl⟩
    rw [← he]
    conv => rhs; rw [gapF, c]
    rfl
  · obtain ⟨b, x, hmr, he, rfl⟩ := hv
    refine jss_one (js_ret (je_c (jc_notin (je_ixI (je_v 2 rfl) (je_v 3 rfl) (inR_at rfl hl)) (JOI.je (joi_cut (je_v 1 rfl) (jp_some (je_v 4 rfl)) jp_none)))) ?_)
    show D.bl _ = .bl (shF ns ps ms)
    rw [← he, gapF]
theorem sc_left : FnScope ["row", "other", "places"] ["row", "other"] (defScope s_left) := ⟨rfl, rfl, rfl, by decide +kernel, rfl, by decide +kernel, by decide +kernel⟩
def p_left (ds : List D) : Prop := ∃ ns ms : List Int, ds = [.il ns, .il ms] ∧ ns.length ≤ 1000 ∧ ms.length ≤ 1000
def dleft (L S : Addr) (ns ms : List Int) : D := if (eF 0 ns ms).length = ms.length then dLeft L (eF 0 ns ms) else dLeft S (eF 0 ns ms)
def g_left (L S : Addr) (ds : List D) : D := match ds with | [.il ns, .il ms] => dleft L S ns ms | _ => .non
theorem ok_left {f : Addr} {fd : FuncData} {L S : Addr} (F : Fun K "left" "left" s_left f fd) (T : Blt mg) (C_check_row : Callee P w K mg base 2 "check_row" p_check_row g_check_row) (C_earliest : Callee P w K mg base 1 "earliest" p_earliest g_earliest)
    (C_Left : MakerU P w K mg base 1 "Left" L p_Left_init (g_Left_init L)) (C_Short : MakerU P w K mg base 1 "Short" S p_Short_init (g_Short_init S)) : FnOk P w K mg base CX0 3 f fd ["row", "other"] (spU K p_left (g_left L S)) := by
  refine fn_okU (k := 2) F sc_left (by rintro ds ⟨i, j, rfl, _⟩; rfl) fun cdv A outer s H E hr ds hp => ?_
  obtain ⟨ns, ms, rfl, hz, hz2⟩ := hp
  refine jss_cons (js_expr (je_call C_check_row hr (ja_cons (je_v 0 rfl) ja_nil) ⟨_, rfl, hz⟩) ?_)
  refine jss_cons (js_expr (je_call C_check_row hr (ja_cons (je_v 1 rfl) ja_nil) ⟨_, rfl, hz2⟩) ?_)
  refine jss_cons (js_set 2 (je_call (d := .il (eF 0 ns ms)) C_earliest hr (ja_cons (je_v 0 rfl) (ja_cons (je_v 1 rfl) ja_nil)) ⟨_, _, rfl, hz, hz2⟩) ?_ (by decide) sc_left.nd)
  refine jss_cons (js_if (jt_c (jc_eq (je_len T.len (je_v 2 rfl)) (je_len T.len (je_v 1 rfl)))) (fun c => ?_) (fun c => ?_))
  · refine jss_one (js_retU (ju_make (d := dLeft L (eF 0 ns ms)) C_Left hr (ja_cons (je_v 2 rfl) ja_nil) ⟨_, rfl⟩) ?_)
    show _ = dleft L S ns ms
    unfold dleft
    rw [if_pos (by have := of_decide_eq_true c; omega)]
  refine jss_nil ?_
  refine jss_one (js_retU (ju_make (d := dLeft S (eF 0 ns ms)) C_Short hr (ja_cons (je_v 2 rfl) ja_nil) ⟨_, rfl⟩) ?_)
  show _ = dleft L S ns ms
  unfold dleft
  rw [if_neg (by have := of_decide_eq_false c; omega)]

end
end Kc

set_option Elab.async false
set_option linter.all false
set_option maxRecDepth 100000
set_option maxHeartbeats 2000000
set_option autoImplicit false
namespace Kc
open PySem L2 Lf M1 M2
section
variable {P : Program} {w : World} {K : PySem.W.Frag} {mg : Str → Option Value} {base : Heap}
def dLong (C : Addr) (mine theirs : List Int) (tab : List (List Int)) : D := .obj C [("mine", .il mine), ("theirs", .il theirs), ("table", ils tab)]
def rowsD (ns ms : List Int) (i : Nat) : List D := (List.range i).map fun k => .il (rowF (tb ns ms k) ms.length)
theorem rowsD_len (ns ms : List Int) (i : Nat) : (rowsD ns ms i).length = i := by unfold rowsD; simp
theorem rowsD_last (ns ms : List Int) (i : Nat) : gD (rowsD ns ms (i + 1)) (-1) = .il (rowF (tb ns ms i) ms.length) := by
  unfold gD
  rw [if_neg (by decide), rowsD_len, show (-1 + ((i + 1 : Nat) : Int)).toNat = i by omega]
  unfold rowsD
  rw [List.getD_eq_getElem?_getD, List.getElem?_map, List.getElem?_range (by omega)]
  rfl
theorem rowsD_snoc (ns ms : List Int) (i : Nat) : rowsD ns ms (i + 1) = rowsD ns ms i ++ [.il (rowF (tb ns ms i) ms.length)] := by
  unfold rowsD
  rw [List.range_succ, List.map_append]
  rfl
theorem rowsD_all (ns ms : List Int) : D.lst (rowsD ns ms (ns.length + 1)) = ils (tabF ns ms) := by
  unfold rowsD ils tabF
  rw [List.map_map]
  rfl
theorem sc_table_of : FnScope ["one", "other", "table", "sign", "ahead", "line", "j", "another"] ["one", "other"] (defScope s_table_of) := ⟨rfl, rfl, rfl, by decide +kernel, rfl, by decide +kernel, by decide +kernel⟩
def p_table_of (ds : List D) : Prop := ∃ (ns ms : List Int), ds = [.il ns, .il ms] ∧ ns.length ≤ 1000 ∧ ms.length ≤ 1000
def g_table_of (ds : List D) : D := match ds with | [.il ns, .il ms] => ils (tabF ns ms) | _ => .non
theorem ok_table_of {f : Addr} {fd : FuncData} (F : Fun K "table_of" "table_of" s_table_of f fd) (T : Blt mg) : FnOk P w K mg base CX0 1 f fd ["one", "other"] (spF K p_table_of g_table_of) := by
  refine fn_ok (k := 0) F sc_table_of (by rintro ds ⟨i, j, rfl, _⟩; rfl) fun cdv A outer s H E hr ds hp => ?_
  obtain ⟨ns, ms, rfl, hz, hz2⟩ := hp
  have hm1 : ((ms.length : Int) + 1).toNat = ms.length + 1 := by omega
  have h0 : (rngI 0 ((ms.length : Int) + 1).toNat).map (fun _ => (0 : Int)) = rowF (tb ns ms 0) ms.length := by
    rw [hm1]
    unfold rngI rowF
    rw [List.map_map]
    rfl
  refine jss_cons (js_setO 2 (jo_lst (l := .frs) (ds := rowsD ns ms 1) (ja_cons (JE.eq (JOI.je (joi_mapI (x := "sign") (n := 3) (f := fun _ => 0) (ji_range T.range (je_add (je_len T.len (je_v 1 rfl)) je_int) (by omega) (by omega)) (fun _ _ _ _ _ _ => jgb_name 3 sc_table_of.nd) (fun k hk _ _ _ _ _ => je_int) sc_table_of.nd (blkOk_by (N := ["one", "other", "table", "sign", "ahead", "line", "j", "another"]) (sc := defScope s_table_of) (by decide +kernel)) (by unfold rngI; simp; omega))) (congrArg D.il h0)) ja_nil) (hz := by rw [rowsD_len]; decide)) ?_ (by decide) sc_table_of.nd)
  refine jss_cons (js_forI (fun rest ρ => ∃ (i : Nat) (x3 x4 x5 x6 x7 : Option Lf.E), i ≤ ns.length ∧ rest = ns.drop i ∧ ρ = [some (.v .imm (.il ns)), some (.v .imm (.il ms)), some (Lf.E.own .frs (rowsD ns ms (i + 1))), x3, x4, x5, x6, x7]) (ji_list (je_v 0 rfl)) ⟨0, none, none, none, none, none, Nat.zero_le _, rfl, rfl⟩ (fun d rest ρ' hv => ?_) (fun ρ' hv => ?_))
  · obtain ⟨i, x3, x4, x5, x6, x7, hi, hrest, rfl⟩ := hv
    have hlt : i < ns.length := by
      apply Classical.byContradiction
      intro h
      rw [List.drop_eq_nil_of_le (by omega)] at hrest
      cases hrest
    have ed : ns.drop i = ns[i] :: ns.drop (i + 1) := List.drop_eq_getElem_cons hlt
    rw [ed] at hrest
    obtain ⟨hd, rfl⟩ := List.cons.inj hrest
    have hd' : d = ns.getD i 0 := by rw [hd, List.getD_eq_getElem?_getD, List.getElem?_eq_getElem hlt]; rfl
    refine ⟨_, jg_name 3 sc_table_of.nd, ?_⟩
    refine jss_cons (js_set 4 (je_ixO 2 rfl (je_neg je_int) ⟨by rw [rowsD_len]; omega, by omega⟩ (rowsD_last ns ms i)) ?_ (by decide) sc_table_of.nd)
    refine jss_cons (js_setOI 5 (joi_lst (l := .frs) (ns := [_]) (ja_cons je_int ja_nil)) ?_ sc_table_of.nd)
    refine jss_cons (js_for (fun rest2 ρ => ∃ (j : Nat) (x6 x7 : Option Lf.E), j ≤ ms.length ∧ rest2 = enumF j (ms.drop j) ∧ ρ = [some (.v .imm (.il ns)), some (.v .imm (.il ms)), some (Lf.E.own .frs (rowsD ns ms (i + 1))), some (.v .frs (.int d)), some (.v .frs (.il (rowF (tb ns ms i) ms.length))), some (.ownI (rowF (tb ns ms (i + 1)) j)), x6, x7]) (ji_enum T.enumerate (je_v 1 rfl)) ⟨0, _, _, Nat.zero_le _, enumI_eq ms, rfl⟩ (fun d2 rest2 ρ' hv => ?_) (fun ρ' hv => ?_))
    · obtain ⟨j, y6, y7, hj, hrest2, rfl⟩ := hv
      have hlt2 : j < ms.length := by
        apply Classical.byContradiction
        intro h
        rw [List.drop_eq_nil_of_le (by omega)] at hrest2
        cases hrest2
      have ed2 : ms.drop j = ms[j] :: ms.drop (j + 1) := List.drop_eq_getElem_cons hlt2
      rw [ed2] at hrest2
      obtain ⟨rfl, rfl⟩ := List.cons.inj hrest2
      have hd2 : ms[j] = ms.getD j 0 := by rw [List.getD_eq_getElem?_getD, List.getElem?_eq_getElem hlt2]; rfl
      refine ⟨_, jg_pair 6 7 sc_table_of.nd, ?_⟩
      refine jss_one (js_appI 5 rfl (je_ifI (jt_c (jc_eq (je_v 3 rfl) (je_v 7 rfl))) (fun c => (je_add (je_ixI (je_v 4 rfl) (je_v 6 rfl) (inR_at rfl (by rw [rowF_len]; omega))) je_int)) (fun c => (je_max T.max (je_ixI (je_oI 5 rfl) (je_v 6 rfl) (inR_at rfl (by rw [rowF_len]; omega))) (je_ixI (je_v 4 rfl) (je_add (je_v 6 rfl) je_int) (inR_at (show (j : Int) + 1 = ((j + 1 : Nat) : Int) by omega) (by rw [rowF_len]; omega)))))) ?_ (by rw [rowF_len]; omega))
      refine ⟨j + 1, some (.v .frs (.int j)), some (.v .frs (.int ms[j])), by omega, rfl, ?_⟩
      have e1 : rowF (tb ns ms (i + 1)) (j + 1) = rowF (tb ns ms (i + 1)) j ++ [tb ns ms (i + 1) (j + 1)] := by
        unfold rowF
        rw [List.range_succ, List.map_append]
        rfl
      rw [gI_at (show ((j : Nat) : Int) = ((j : Nat) : Int) from rfl), gI_at (show ((j : Nat) : Int) = ((j : Nat) : Int) from rfl), gI_at (show (j : Int) + 1 = ((j + 1 : Nat) : Int) by omega), rowF_at (by omega), rowF_at (by omega), rowF_at (by omega), e1, tb_s, ← hd', ← hd2]
      show [_, _, _, _, _, some (Lf.E.ownI (rowF (tb ns ms (i + 1)) j ++ [if decide (d = ms[j]) = true then tb ns ms i j + 1 else mx (tb ns ms (i + 1) j) (tb ns ms i (j + 1))])), _, _] = _
      by_cases h : d = ms[j]
      · rw [if_pos (decide_eq_true h), if_pos h]
      · rw [decide_eq_false h, if_neg h]
        rfl
    · obtain ⟨j, y6, y7, hj, hrest2, rfl⟩ := hv
      have hj' : j = ms.length := by
        apply Classical.byContradiction
        intro h
        have ed2 : ms.drop j = ms[j] :: ms.drop (j + 1) := List.drop_eq_getElem_cons (by omega)
        rw [ed2] at hrest2
        cases hrest2
      subst hj'
      refine jss_keepI 5 rfl ?_
      refine jss_one (js_app 2 rfl (je_v 5 rfl) ?_ (by rw [rowsD_len]; omega))
      rw [← rowsD_snoc ns ms (i + 1)]
      exact ⟨i + 1, _, _, _, _, _, by omega, rfl, rfl⟩
  · obtain ⟨i, x3, x4, x5, x6, x7, hi, hrest, rfl⟩ := hv
    have hi' : i = ns.length := by
      apply Classical.byContradiction
      intro h
      have ed : ns.drop i = ns[i] :: ns.drop (i + 1) := List.drop_eq_getElem_cons (by omega)
      rw [ed] at hrest
      cases hrest
    subst hi'
    refine jss_keepO 2 rfl ?_
    exact jss_one (js_ret (je_v 2 rfl) (rowsD_all ns ms))
theorem sc_common_places : FnScope ["one", "other", "table", "mine", "theirs", "i", "j"] ["one", "other", "table"] (defScope s_common_places) := ⟨rfl, rfl, rfl, by decide +kernel, rfl, by decide +kernel, by decide +kernel⟩
def p_common_places (ds : List D) : Prop := ∃ (ns ms : List Int), ds = [.il ns, .il ms, ils (tabF ns ms)] ∧ ns.length ≤ 1000 ∧ ms.length ≤ 1000
def g_common_places (ds : List D) : D := match ds with | [.il ns, .il ms, _] => .tup [.il (M2.places ns ms).1, .il (M2.places ns ms).2] | _ => .non
def muIJ (ρ : PEnv) : Nat := match List.getD ρ 5 none, List.getD ρ 6 none with | some (Lf.E.v _ (D.int i)), some (Lf.E.v _ (D.int j)) => i.toNat + j.toNat | _, _ => 0
theorem ok_common_places {f : Addr} {fd : FuncData} (F : Fun K "common_places" "common_places" s_common_places f fd) (T : Blt mg) : FnOk P w K mg base CX0 1 f fd ["one", "other", "table"] (spF K p_common_places g_common_places) := by
  refine fn_ok (k := 0) F sc_common_places (by rintro ds ⟨i, j, rfl, _⟩; rfl) fun cdv A outer s H E hr ds hp => ?_
  obtain ⟨ns, ms, rfl, hz, hz2⟩ := hp
  refine jss_cons (js_setOI 3 joi_nil ?_ sc_common_places.nd)
  refine jss_cons (js_setOI 4 joi_nil ?_ sc_common_places.nd)
  refine jss_cons (js_par 5 6 (l := .frs) (ja_cons (je_len T.len (je_v 0 rfl)) (ja_cons (je_len T.len (je_v 1 rfl)) ja_nil)) ?_ (by decide) sc_common_places.nd)
  refine jss_cons (js_while (fun ρ => ∃ (f i j : Nat) (M N : List Int), i + j ≤ f ∧ i ≤ ns.length ∧ j ≤ ms.length ∧ M.length + i ≤ ns.length ∧ N.length + j ≤ ms.length ∧ (cpF ns ms f i j).1 ++ M.reverse = (M2.places ns ms).1 ∧ (cpF ns ms f i j).2 ++ N.reverse = (M2.places ns ms).2 ∧
      ρ = [some (.v .imm (.il ns)), some (.v .imm (.il ms)), some (Lf.E.v .imm (ils (tabF ns ms))), some (.ownI M), some (.ownI N), some (.v .frs (.int i)), some (.v .frs (.int j))]) muIJ ⟨ns.length + ms.length, ns.length, ms.length, [], [], Nat.le_refl _, Nat.le_refl _, Nat.le_refl _, by simp, by simp, by rw [List.reverse_nil, List.append_nil]; rfl, by rw [List.reverse_nil, List.append_nil]; rfl, rfl⟩ (fun ρ' hv => ?_))
  · obtain ⟨f, i, j, M, N, hf, hi, hj, hM, hN, e1, e2, rfl⟩ := hv
    have ht := tabF_len ns ms
    have hrow : ∀ k, k ≤ ns.length → ((tabF ns ms).getD k []).length = ms.length + 1 := fun k hk => by rw [tabF_row hk, rowF_len]
    have hri := hrow i hi
    refine ⟨_, (jt_c (jc_gt (je_cell (n := i) (m := j) (je_v 2 rfl) (je_v 5 rfl) (je_v 6 rfl) rfl (by omega) rfl (by omega)) je_int)), fun c => ?_, fun c => ?_⟩
    · have c' := of_decide_eq_true c
      rw [g_tabF hi hj] at c'
      obtain ⟨i0, j0⟩ := tb_pos c'
      have hri1 := hrow (i - 1) (by omega)
      obtain ⟨f', rfl⟩ : ∃ f', f = f' + 1 := ⟨f - 1, by omega⟩
      rw [cpF, if_pos c'] at e1 e2
      have ei : (i : Int) - 1 = ((i - 1 : Nat) : Int) := by omega
      have ej : (j : Int) - 1 = ((j - 1 : Nat) : Int) := by omega
      refine jss_one (js_if (jt_c (jc_eq (je_ixI (je_v 0 rfl) (je_sub (je_v 5 rfl) je_int) (inR_at ei (by omega))) (je_ixI (je_v 1 rfl) (je_sub (je_v 6 rfl) je_int) (inR_at ej (by omega))))) (fun c => ?_) (fun c => ?_))
      · have c2 := of_decide_eq_true c
        rw [gI_at ei, gI_at ej] at c2
        rw [if_pos c2] at e1 e2
        refine jss_cons (js_augS 5 rfl je_int ?_ sc_common_places.nd)
        refine jss_cons (js_augS 6 rfl je_int ?_ sc_common_places.nd)
        refine jss_cons (js_appI 3 rfl (je_v 5 rfl) ?_ (by omega))
        refine jss_one (js_appI 4 rfl (je_v 6 rfl) ?_ (by omega))
        refine ⟨⟨f', i - 1, j - 1, M ++ [((i - 1 : Nat) : Int)], N ++ [((j - 1 : Nat) : Int)], by omega, by omega, by omega, by rw [List.length_append, List.length_singleton]; omega, by rw [List.length_append, List.length_singleton]; omega, ?_, ?_, ?_⟩, ?_⟩
        · rw [← e1, List.reverse_append, List.append_assoc]
          rfl
        · rw [← e2, List.reverse_append, List.append_assoc]
          rfl
        · rw [ei, ej]
          rfl
        · show (((i : Int) - 1)).toNat + (((j : Int) - 1)).toNat < ((i : Nat) : Int).toNat + ((j : Nat) : Int).toNat
          omega
      · have c2 := of_decide_eq_false c
        rw [gI_at ei, gI_at ej] at c2
        rw [if_neg c2] at e1 e2
        refine jss_one (js_if (jt_c (jc_ge (je_cell (n := i - 1) (m := j) (je_v 2 rfl) (je_sub (je_v 5 rfl) je_int) (je_v 6 rfl) ei (by omega) rfl (by omega)) (je_cell (n := i) (m := j - 1) (je_v 2 rfl) (je_v 5 rfl) (je_sub (je_v 6 rfl) je_int) rfl (by omega) ej (by omega)))) (fun c => ?_) (fun c => ?_))
        · have c3 := of_decide_eq_true c
          rw [g_tabF (by omega) hj, g_tabF hi (by omega)] at c3
          rw [if_pos c3] at e1 e2
          refine jss_one (js_augS 5 rfl je_int ?_ sc_common_places.nd)
          refine ⟨⟨f', i - 1, j, M, N, by omega, by omega, by omega, by omega, by omega, e1, e2, ?_⟩, ?_⟩
          · rw [ei]
            rfl
          · show (((i : Int) - 1)).toNat + ((j : Nat) : Int).toNat < ((i : Nat) : Int).toNat + ((j : Nat) : Int).toNat
            omega
        · have c3 := of_decide_eq_false c
          rw [g_tabF (by omega) hj, g_tabF hi (by omega)] at c3
          rw [if_neg c3] at e1 e2
          refine jss_one (js_augS 6 rfl je_int ?_ sc_common_places.nd)
          refine ⟨⟨f', i, j - 1, M, N, by omega, by omega, by omega, by omega, by omega, e1, e2, ?_⟩, ?_⟩
          · rw [ej]
            rfl
          · show ((i : Nat) : Int).toNat + (((j : Int) - 1)).toNat < ((i : Nat) : Int).toNat + ((j : Nat) : Int).toNat
            omega
    · have c' := of_decide_eq_false c
      rw [g_tabF hi hj] at c'
      have en : cpF ns ms f i j = ([], []) := by
        cases f with
        | zero => rfl
        | succ f => rw [cpF, if_neg c']
      rw [en] at e1 e2
      refine jss_one (js_ret (je_tup (l := .frs) (ja_cons (JOI.je (joi_rev (je_oI 3 rfl))) (ja_cons (JOI.je (joi_rev (je_oI 4 rfl))) ja_nil))) ?_)
      show D.tup [.il M.reverse, .il N.reverse] = .tup [.il (M2.places ns ms).1, .il (M2.places ns ms).2]
      rw [← e1, ← e2]
      rfl
theorem sc_Longest_init : FnScope ["self", "mine", "theirs", "table", "line"] ["self", "mine", "theirs", "table"] (defScope s_Longest_init) := ⟨rfl, rfl, rfl, by decide +kernel, rfl, by decide +kernel, by decide +kernel⟩
def p_Longest_init (ds : List D) : Prop := ∃ (a b : List Int) (tab : List (List Int)), ds = [.il a, .il b, ils tab] ∧ tab.length ≤ 100000
def g_Longest_init (C : Addr) (ds : List D) : D := match ds with | [.il a, .il b, t] => .obj C [("mine", .il a), ("theirs", .il b), ("table", t)] | _ => .non
theorem filter_ttt {α β : Type} (f : α → β) (xs : List α) : (xs.filter fun _ => true).map f = xs.map f := by
  rw [List.filter_eq_self.mpr (fun _ _ => rfl)]
theorem ok_Longest_init {f : Addr} {fd : FuncData} {C : Addr} (F : Fun K "__init__" "Longest.__init__" s_Longest_init f fd) (T : Blt mg) (L : Kl K C ["mine", "theirs", "table"]) : FnOk P w K mg base CX0 1 f fd ["self", "mine", "theirs", "table"] (spIU K C p_Longest_init (g_Longest_init C)) := by
  refine fn_okI (k := 0) F sc_Longest_init (by rintro ds ⟨i, j, k, rfl, _⟩; rfl) fun cdv A outer s H E hr b ds hp => ?_
  obtain ⟨l1, l2, tab, rfl, hz⟩ := hp
  refine jss_cons (js_fldU 0 rfl (JOI.ju (joi_list T.list (je_v 1 rfl))) (fun g1 eg1 og1 => ?_) L.i.cl (L.no _ (by simp)))
  refine jss_cons (js_fldU 0 rfl (JOI.ju (joi_list T.list (je_v 2 rfl))) (fun g2 eg2 og2 => ?_) L.i.cl (L.no _ (by simp)))
  refine jss_one (js_fldU 0 rfl (JU.eq (d1 := ils tab) (ju_lc (own := [("line", 4)]) (l' := .frs) (Tst := fun _ => true) (f := fun d => d) (ρd := fun d => (wipeE _ 4).set 4 (some (.v .frs d))) (ji_lst (je_v 3 rfl)) (fun d hd _ _ _ _ _ => jgb_name 4 sc_Longest_init.nd) (fun _ _ _ _ _ _ _ => jts_nil) (fun d hd _ _ _ _ _ _ => by
    obtain ⟨l, _, rfl⟩ := List.mem_map.mp hd
    exact JOI.ju (joi_list T.list (je_v 4 rfl))) sc_Longest_init.nd (blkOk_by (N := ["self", "mine", "theirs", "table", "line"]) (sc := defScope s_Longest_init) (by decide +kernel)) (by rw [List.length_map]; exact hz)) (by rw [filter_ttt, List.map_id']; rfl)) (fun g3 eg3 og3 => ?_) L.i.cl (L.no _ (by simp)) (hs := rfl))
  refine ⟨_, _, rfl, ?_, ?_⟩
  · show D.obj C [("mine", erase g1), ("theirs", erase g2), ("table", erase g3)] = _
    rw [eg1, eg2, eg3]
    rfl
  · show (true && (okG g1 && (okG g2 && (okG g3 && true)))) = true
    rw [og1, og2, og3]
    rfl
theorem sc_Longest_shows : FnScope ["self", "one", "other", "place"] ["self", "one", "other"] (defScope s_Longest_shows) := ⟨rfl, rfl, rfl, by decide +kernel, rfl, by decide +kernel, by decide +kernel⟩
def p_Longest_shows (C : Addr) (ds : List D) : Prop := ∃ (a b : List Int) (tab : List (List Int)) (ns ms : List Int), ds = [dLong C a b tab, .il ns, .il ms] ∧ ns.length ≤ 1000 ∧ ms.length ≤ 1000
noncomputable def g_Longest_shows (ds : List D) : D := match ds with | [.obj _ [(_, .il a), (_, .il b), (_, .lst t)], .il ns, .il ms] => .bl (dec (∃ tab, t = tab.map D.il ∧ LongOk ns ms a b tab)) | _ => .non
theorem g_long (C : Addr) (a b : List Int) (tab : List (List Int)) (ns ms : List Int) : g_Longest_shows [dLong C a b tab, .il ns, .il ms] = .bl (dec (LongOk ns ms a b tab)) := by
  show D.bl (dec _) = _
  congr 1
  exact dec_iff ⟨fun ⟨t, h, q⟩ => by rw [map_il_inj h]; exact q, fun q => ⟨tab, rfl, q⟩⟩
theorem ris_len {ps : List Int} {m : Nat} (hz : m ≤ 1000) (h : risF (-1) m ps = true) : ps.length ≤ 1000 := by
  cases m with
  | zero =>
    cases ps with
    | nil => simp
    | cons p r => have := risF_mem _ (p :: r) (-1) (by omega) h p (List.mem_cons_self ..); omega
  | succ n =>
    have := risF_len _ ps (-1) (by omega) (by omega) h
    omega
theorem ok_Longest_shows {f : Addr} {fd : FuncData} {C : Addr} (F : Fun K "shows" "Longest.shows" s_Longest_shows f fd) (T : Blt mg) (L : Kl K C ["mine", "theirs", "table"]) (C_are_rising : Callee P w K mg base 1 "are_rising" p_are_rising g_are_rising) (C_is_table : Callee P w K mg base 1 "is_table" p_is_table g_is_table) : FnOk P w K mg base CX0 2 f fd ["self", "one", "other"] (spF K (p_Longest_shows C) g_Longest_shows) := by
  refine fn_ok (k := 1) F sc_Longest_shows (by rintro ds ⟨i, j, k, l, m, rfl, _⟩; rfl) fun cdv A outer s H E hr ds hp => ?_
  obtain ⟨l1, l2, tab, ns, ms, rfl, hz, hz2⟩ := hp
  have hu : (A.deeper (PyProof.Rows.envOfC "Longest.shows" (defScope s_Longest_shows) s.heap.objs.size f cdv)).units + 64 < cLine := hr.units
  rw [g_long]
  have n1 := L.no "mine" (by simp)
  have n2 := L.no "theirs" (by simp)
  have n3 := L.no "table" (by simp)
  refine jss_cons (js_if (JW.pt (jw_or (jt_not (jt_v (v := risF (-1) ns.length l1) (je_call C_are_rising hr (ja_cons (je_fld (d := .il l1) (je_v 0 rfl) L.i.cl n1 rfl) (ja_cons (je_len T.len (je_v 1 rfl)) ja_nil)) ⟨_, _, rfl⟩))) (fun _ => (jw_or1 (jt_not (jt_v (v := risF (-1) ms.length l2) (je_call C_are_rising hr (ja_cons (je_fld (d := .il l2) (je_v 0 rfl) L.i.cl n2 rfl) (ja_cons (je_len T.len (je_v 2 rfl)) ja_nil)) ⟨_, _, rfl⟩))))))) (fun c => ?_) (fun c => ?_))
  · refine jss_one (js_ret je_bl ?_)
    congr 1
    symm
    apply dec_f
    intro t
    rw [t.r1, t.r2] at c
    cases c
  refine jss_nil ?_
  rw [Bool.or_eq_false_iff] at c
  have r1 : risF (-1) ns.length l1 = true := by simpa using c.1
  have r2 : risF (-1) ms.length l2 = true := by simpa using c.2
  have k1 := ris_len hz r1
  have k2 := ris_len hz2 r2
  have m1 := risF_mem _ l1 (-1) (by omega) r1
  have m2 := risF_mem _ l2 (-1) (by omega) r2
  refine jss_cons (js_if (jt_c (jc_neL hu (JOI.je (joi_mapI (x := "place") (n := 3) (f := gI ns) (ji_list (je_fld (d := .il l1) (je_v 0 rfl) L.i.cl n1 rfl)) (fun _ _ _ _ _ _ => jgb_name 3 sc_Longest_shows.nd) (fun k hk _ _ _ _ _ => (je_ixI (je_v 1 rfl) (je_v 3 rfl) ⟨by have := m1 k hk; omega, (m1 k hk).2⟩)) sc_Longest_shows.nd (blkOk_by (N := ["self", "one", "other", "place"]) (sc := defScope s_Longest_shows) (by decide +kernel)) (by omega)))
    (JOI.je (joi_mapI (x := "place") (n := 3) (f := gI ms) (ji_list (je_fld (d := .il l2) (je_v 0 rfl) L.i.cl n2 rfl)) (fun _ _ _ _ _ _ => jgb_name 3 sc_Longest_shows.nd) (fun k hk _ _ _ _ _ => (je_ixI (je_v 2 rfl) (je_v 3 rfl) ⟨by have := m2 k hk; omega, (m2 k hk).2⟩)) sc_Longest_shows.nd (blkOk_by (N := ["self", "one", "other", "place"]) (sc := defScope s_Longest_shows) (by decide +kernel)) (by omega))))) (fun c => ?_) (fun c => ?_))
  · refine jss_one (js_ret je_bl ?_)
    congr 1
    symm
    apply dec_f
    intro t
    rw [decide_eq_true t.e] at c
    cases c
  refine jss_nil ?_
  have e : l1.map (gI ns) = l2.map (gI ms) := by simpa using c
  refine jss_one (js_ret (JE.eq (je_and (v := dec (TabOk ns ms tab)) (je_call C_is_table hr (ja_cons (je_v 1 rfl) (ja_cons (je_v 2 rfl) (ja_cons (je_fld (d := ils tab) (je_v 0 rfl) L.i.cl n3 rfl) ja_nil))) ⟨_, _, _, rfl, hz, hz2⟩ (g_tab ns ms tab)) (fun c => (je_one (je_c (jc_eq (je_lastCell (n := ns.length) (m := ms.length) (je_fld (d := ils tab) (je_v 0 rfl) L.i.cl n3 rfl) (je_neg je_int) (je_neg je_int) (of_dec c).n ((of_dec c).m _ (Nat.le_refl _))) (je_len T.len (je_fld (d := .il l1) (je_v 0 rfl) L.i.cl n1 rfl))))))) ?_) rfl)
  congr 1
  by_cases h : TabOk ns ms tab
  · rw [dec_t h, Bool.true_and, ← dec_dec]
    exact dec_iff ⟨fun k => ⟨r1, r2, e, h, k⟩, fun q => q.k⟩
  · rw [dec_f h, Bool.false_and, dec_f (fun q => h q.t)]
theorem sc_longest : FnScope ["one", "other", "table", "mine", "theirs"] ["one", "other"] (defScope s_longest) := ⟨rfl, rfl, rfl, by decide +kernel, rfl, by decide +kernel, by decide +kernel⟩
def p_longest (ds : List D) : Prop := ∃ (ns ms : List Int), ds = [.il ns, .il ms] ∧ ns.length ≤ 1000 ∧ ms.length ≤ 1000
def g_longest (C : Addr) (ds : List D) : D := match ds with | [.il ns, .il ms] => dLong C (M2.places ns ms).1 (M2.places ns ms).2 (tabF ns ms) | _ => .non
theorem ok_longest {f : Addr} {fd : FuncData} {C : Addr} (F : Fun K "longest" "longest" s_longest f fd) (T : Blt mg) (C_check_row : Callee P w K mg base 2 "check_row" p_check_row g_check_row) (C_table_of : Callee P w K mg base 1 "table_of" p_table_of g_table_of) (C_common_places : Callee P w K mg base 1 "common_places" p_common_places g_common_places)
    (M_Longest : MakerU P w K mg base 1 "Longest" C p_Longest_init (g_Longest_init C)) : FnOk P w K mg base CX0 3 f fd ["one", "other"] (spU K p_longest (g_longest C)) := by
  refine fn_okU (k := 2) F sc_longest (by rintro ds ⟨i, j, rfl, _⟩; rfl) fun cdv A outer s H E hr ds hp => ?_
  obtain ⟨ns, ms, rfl, hz, hz2⟩ := hp
  refine jss_cons (js_expr (je_call C_check_row hr (ja_cons (je_v 0 rfl) ja_nil) ⟨_, rfl, hz⟩) ?_)
  refine jss_cons (js_expr (je_call C_check_row hr (ja_cons (je_v 1 rfl) ja_nil) ⟨_, rfl, hz2⟩) ?_)
  refine jss_cons (js_set 2 (je_call (d := ils (tabF ns ms)) C_table_of hr (ja_cons (je_v 0 rfl) (ja_cons (je_v 1 rfl) ja_nil)) ⟨_, _, rfl, hz, hz2⟩) ?_ (by decide) sc_longest.nd)
  refine jss_cons (js_asg (je_call (d := .tup [.il (M2.places ns ms).1, .il (M2.places ns ms).2]) C_common_places hr (ja_cons (je_v 0 rfl) (ja_cons (je_v 1 rfl) (ja_cons (je_v 2 rfl) ja_nil))) ⟨_, _, rfl, hz, hz2⟩) (jg_pair 3 4 sc_longest.nd) ?_)
  exact jss_one (js_retU (ju_make (d := dLong C (M2.places ns ms).1 (M2.places ns ms).2 (tabF ns ms)) M_Longest hr (ja_cons (je_v 3 rfl) (ja_cons (je_v 4 rfl) (ja_cons (je_v 2 rfl) ja_nil))) ⟨_, _, _, rfl, by rw [tabF_len]; omega⟩) rfl)
theorem sc_law_long : FnScope ["_law_one", "_law_other", "_law_mine", "_law_theirs", "_law_table_here", "_law_some", "_law_place"] ["_law_one", "_law_other", "_law_mine", "_law_theirs", "_law_table_here"] (defScope s_law_long) := ⟨rfl, rfl, rfl, by decide +kernel, rfl, by decide +kernel, by decide +kernel⟩
def p_law_long (ds : List D) : Prop := ∃ (ns ms a b : List Int) (tab : List (List Int)), ds = [.il ns, .il ms, .il a, .il b, ils tab] ∧ ns.length ≤ 1000 ∧ ms.length ≤ 1000 ∧ a.length ≤ 100000
noncomputable def g_law_long (ds : List D) : D := match ds with | [.il ns, .il ms, .il a, .il b, .lst t] => .bl (dec (∃ tab, t = tab.map D.il ∧ LongOk ns ms a b tab)) | _ => .non
theorem g_llong (a b : List Int) (tab : List (List Int)) (ns ms : List Int) : g_law_long [.il ns, .il ms, .il a, .il b, ils tab] = .bl (dec (LongOk ns ms a b tab)) := by
  show D.bl (dec _) = _
  congr 1
  exact dec_iff ⟨fun ⟨t, h, q⟩ => by rw [map_il_inj h]; exact q, fun q => ⟨tab, rfl, q⟩⟩
theorem ok_law_long {f : Addr} {fd : FuncData} (F : Fun K "_law_long" "_law_long" s_law_long f fd) (T : Blt mg) (C_law_stands : Callee P w K mg base 1 "_law_stands" p_law_stands g_law_stands) (C_law_table : Callee P w K mg base 1 "_law_table" p_is_table g_is_table) : FnOk P w K mg base CX0 2 f fd ["_law_one", "_law_other", "_law_mine", "_law_theirs", "_law_table_here"] (spF K p_law_long g_law_long) := by
  refine fn_ok (k := 1) F sc_law_long (by rintro ds ⟨i, j, k, l, m, rfl, _⟩; rfl) fun cdv A outer s H E hr ds hp => ?_
  obtain ⟨ns, ms, l1, l2, tab, rfl, hz, hz2, hz3⟩ := hp
  rw [g_llong]
  have hany : ∀ {xs : List Int}, (xs.map fun p => !decide (0 ≤ p ∧ p < (ns.length : Int))).any id = false → ∀ p, p ∈ xs → 0 ≤ p ∧ p < (ns.length : Int) := fun {xs} h p hp => by
    rw [List.any_eq_false] at h
    have := h _ (List.mem_map.mpr ⟨p, hp, rfl⟩)
    simpa using this
  have hany2 : ∀ {xs : List Int}, (∀ p, p ∈ xs → 0 ≤ p ∧ p < (ns.length : Int)) → (xs.map fun p => !decide (0 ≤ p ∧ p < (ns.length : Int))).any id = false := fun {xs} h => by
    rw [List.any_eq_false]
    intro b hb
    obtain ⟨p, hp, rfl⟩ := List.mem_map.mp hb
    rw [decide_eq_true (h p hp)]
    decide
  have ebool : ∀ k : Int, (!(decide ((0 : Int) ≤ k) && decide (k < (ns.length : Int)))) = !decide (0 ≤ k ∧ k < (ns.length : Int)) := fun k => by
    by_cases h1 : (0 : Int) ≤ k
    · by_cases h2 : k < (ns.length : Int)
      · simp [h1, h2]
      · simp [h1, h2]
    · simp [h1]
  refine jss_cons (js_if (JW.pt (jw_or (jt_v (v := (l1.map fun p => !decide (0 ≤ p ∧ p < (ns.length : Int))).any id) (je_any T.any (JO.je (jo_mapB (x := "_law_place") (n := 6) (f := fun p => !decide (0 ≤ p ∧ p < (ns.length : Int))) (ji_list (je_v 2 rfl)) (fun _ _ _ _ _ _ => jgb_name 6 sc_law_long.nd) (fun k hk _ _ _ _ _ => JE.eq (je_not (je_lelt je_int (je_v 6 rfl) (je_len T.len (je_v 0 rfl)))) (congrArg D.bl (ebool k))) sc_law_long.nd (blkOk_by (N := ["_law_one", "_law_other", "_law_mine", "_law_theirs", "_law_table_here", "_law_some", "_law_place"]) (sc := defScope s_law_long) (by decide +kernel)) hz3)))) (fun _ => (jw_or1 (jt_not (jt_v (v := dec (TabOk ns ms tab)) (je_call C_law_table hr (ja_cons (je_v 0 rfl) (ja_cons (je_v 1 rfl) (ja_cons (je_v 4 rfl) ja_nil))) ⟨_, _, _, rfl, hz, hz2⟩ (g_tab ns ms tab)))))))) (fun c => ?_) (fun c => ?_))
  · refine jss_one (js_ret je_bl ?_)
    congr 1
    symm
    apply dec_f
    intro t
    rw [hany2 (risF_mem _ l1 (-1) (by omega) t.r1), dec_t t.t] at c
    cases c
  refine jss_nil ?_
  rw [Bool.or_eq_false_iff] at c
  have hm := hany c.1
  have ht : TabOk ns ms tab := of_dec (by simpa using c.2)
  refine jss_cons (js_mapVI 5 (w := "_law_place") (n := 6) (f := gI ns) (ji_list (je_v 2 rfl)) (fun _ _ _ _ _ _ => jgb_name 6 sc_law_long.nd) (fun k hk _ _ _ _ _ => (je_ixI (je_v 0 rfl) (je_v 6 rfl) ⟨by have := hm k hk; omega, (hm k hk).2⟩)) ?_ sc_law_long.nd (blkOk_by (N := ["_law_one", "_law_other", "_law_mine", "_law_theirs", "_law_table_here", "_law_some", "_law_place"]) (sc := defScope s_law_long) (by decide +kernel)) hz3)
  refine jss_one (js_ret (JE.eq (je_and (v := stdF ns l1 (l1.map (gI ns))) (je_call C_law_stands hr (ja_cons (je_v 0 rfl) (ja_cons (je_v 2 rfl) (ja_cons (je_v 5 rfl) ja_nil))) ⟨_, _, _, rfl⟩) (fun _ => (je_and (v := stdF ms l2 (l1.map (gI ns))) (je_call C_law_stands hr (ja_cons (je_v 1 rfl) (ja_cons (je_v 3 rfl) (ja_cons (je_v 5 rfl) ja_nil))) ⟨_, _, _, rfl⟩) (fun _ => (je_one (je_c (jc_eq (je_lastCell (n := ns.length) (m := ms.length) (je_v 4 rfl) (je_neg je_int) (je_neg je_int) ht.n (ht.m _ (Nat.le_refl _))) (je_len T.len (je_v 2 rfl))))))))) ?_) rfl)
  congr 1
  unfold stdF
  by_cases h1 : risF (-1) ns.length l1 = true
  · rw [h1, List.length_map, decide_eq_true (show l1.length = l1.length from rfl), decide_eq_true (show l1.map (gI ns) = l1.map (gI ns) from rfl), Bool.true_and, Bool.true_and, Bool.true_and]
    by_cases h2 : risF (-1) ms.length l2 = true
    · rw [h2, Bool.true_and]
      by_cases h3 : l2.map (gI ms) = l1.map (gI ns)
      · have h4 : l2.length = l1.length := by have := congrArg List.length h3; rw [List.length_map, List.length_map] at this; exact this
        rw [decide_eq_true h3, decide_eq_true h4, Bool.true_and, Bool.true_and, ← dec_dec]
        exact dec_iff ⟨fun k => ⟨h1, h2, h3.symm, ht, k⟩, fun q => q.k⟩
      · rw [decide_eq_false h3, Bool.and_false, Bool.false_and, dec_f (fun q => h3 q.e.symm)]
    · rw [Bool.eq_false_iff.mpr h2, Bool.false_and, Bool.false_and, dec_f (fun q => h2 q.r2)]
  · rw [Bool.eq_false_iff.mpr h1, Bool.false_and, Bool.false_and, dec_f (fun q => h1 q.r1)]

end
end Kc

set_option Elab.async false
set_option linter.all false
set_option maxRecDepth 100000
set_option maxHeartbeats 2000000
set_option autoImplicit false
namespace Kc
open PySem L2 Lf M1 M2
section
variable {P : Program} {w : World} {K : PySem.W.Frag} {mg : Str → Option Value} {base : Heap}
theorem erases_il : ∀ {rs : List G} {xs : List (List Int)}, erases rs = xs.map D.il → okGs rs = true → ∀ i, i < xs.length → ∃ b, rs[i]? = some (.li b (xs.getD i []))
  | [], xs, h, _, i, hi => by
    cases xs with
    | nil => cases hi
    | cons x r => rw [erases] at h; cases h
  | g :: r, xs, h, o, i, hi => by
    cases xs with
    | nil => cases hi
    | cons x xr =>
      rw [erases, List.map_cons] at h
      obtain ⟨h1, h2⟩ := List.cons.inj h
      rw [okGs, Bool.and_eq_true] at o
      cases i with
      | zero =>
        obtain ⟨b, rfl⟩ := okG_il h1 o.1
        exact ⟨b, rfl⟩
      | succ i =>
        obtain ⟨b, hb⟩ := erases_il h2 o.2 i (by rw [List.length_cons] at hi; omega)
        exact ⟨b, by rw [List.getElem?_cons_succ, hb]; rfl⟩
theorem erases_set : ∀ {rs : List G} {ds : List D} {i : Nat} {y : G}, erases rs = ds → erases (rs.set i y) = ds.set i (erase y)
  | [], ds, i, y, h => by rw [erases] at h; subst h; rfl
  | g :: r, ds, i, y, h => by
    rw [erases] at h
    subst h
    cases i with
    | zero => rfl
    | succ i => rw [List.set_cons_succ, List.set_cons_succ, erases, erases_set rfl]
theorem map_il_set (xs : List (List Int)) (i : Nat) (x : List Int) : (xs.map D.il).set i (.il x) = (xs.set i x).map D.il := by rw [List.map_set]
theorem okGs_set : ∀ {rs : List G} {i : Nat} {y : G}, okGs rs = true → okG y = true → okGs (rs.set i y) = true
  | [], i, y, h, _ => by rw [List.set_nil]; exact h
  | g :: r, i, y, h, hy => by
    rw [okGs, Bool.and_eq_true] at h
    cases i with
    | zero => rw [List.set_cons_zero, okGs, hy, h.2]; rfl
    | succ i => rw [List.set_cons_succ, okGs, h.1, okGs_set h.2 hy]; rfl
theorem erases_len {rs : List G} {xs : List (List Int)} (h : erases rs = xs.map D.il) : rs.length = xs.length := by
  have := congrArg List.length h
  rw [erases_length, List.length_map] at this
  exact this
theorem gD_roots {rs : List G} {i : Int} {n : Nat} {b : Addr} {row : List Int} (h : rs[n]? = some (.li b row)) (hi : i = (n : Int) ∨ (i = -1 ∧ rs.length = n + 1)) : inR (rs.map root).length i ∧ gD (rs.map root) i = .ptr b := by
  have hn := (List.getElem?_eq_some_iff.mp h).1
  rw [List.length_map]
  rcases hi with rfl | ⟨rfl, hl⟩
  · refine ⟨⟨by omega, by omega⟩, ?_⟩
    unfold gD
    rw [if_pos (by omega), Int.toNat_natCast, List.getD_eq_getElem?_getD, List.getElem?_map, h]
    rfl
  · refine ⟨⟨by omega, by omega⟩, ?_⟩
    unfold gD
    rw [if_neg (by decide), List.length_map, hl, show (-1 + ((n + 1 : Nat) : Int)).toNat = n by omega, List.getD_eq_getElem?_getD, List.getElem?_map, h]
    rfl
theorem g_set {tab : List (List Int)} {n m : Nat} {v : Int} (hn : n < tab.length) (hm : m < (tab.getD n []).length) : g (tab.set n ((tab.getD n []).set m v)) n m = v := by
  unfold g
  have e : (tab.set n ((tab.getD n []).set m v)).getD n [] = (tab.getD n []).set m v := by
    conv => lhs; rw [List.getD_eq_getElem?_getD]
    rw [List.getElem?_set_self hn]
    rfl
  rw [e]
  rw [List.getD_eq_getElem?_getD, List.getElem?_set_self hm]
  rfl
theorem setI_last {row : List Int} {m : Nat} {v : Int} (h : row.length = m + 1) : setI row (-1) v = row.set m v := by
  unfold setI
  rw [if_neg (by decide), h, show (-1 + ((m + 1 : Nat) : Int)).toNat = m by omega]
theorem tab_back {tab : List (List Int)} {n : Nat} (hn : n < tab.length) : tab.set n (tab.getD n []) = tab := by
  apply set_self
  rw [List.getD_eq_getElem?_getD, List.getElem?_eq_getElem hn]
  rfl

end
end Kc

set_option Elab.async false
set_option linter.all false
set_option maxRecDepth 100000
set_option maxHeartbeats 2000000
set_option autoImplicit false
namespace Kc
open PySem L2 Lf M1 M2
section
variable {P : Program} {w : World} {K : PySem.W.Frag} {mg : Str → Option Value} {base : Heap}
/-- the classes' names, and what isinstance says of what is found -/
structure Nm (mg : Str → Option Value) (An Bo Le Lo Mi Mx Sh Un : Addr) : Prop where
  an : mg "Answer" = some (.ref An)
  bo : mg "Both" = some (.ref Bo)
  le : mg "Left" = some (.ref Le)
  lo : mg "Longest" = some (.ref Lo)
  mi : mg "Missing" = some (.ref Mi)
  mx : mg "Mixed" = some (.ref Mx)
  sh : mg "Short" = some (.ref Sh)
  un : mg "Unmixed" = some (.ref Un)
structure Isa (K : PySem.W.Frag) (An Bo Le Lo Mi Mx Sh Un X : Addr) : Prop where
  an : PySem.W.kitOne K (.ref X) (.ref An) = some true
  bo : PySem.W.kitOne K (.ref X) (.ref Bo) = some (decide (X = Bo))
  le : PySem.W.kitOne K (.ref X) (.ref Le) = some (decide (X = Le))
  lo : PySem.W.kitOne K (.ref X) (.ref Lo) = some (decide (X = Lo))
  mi : PySem.W.kitOne K (.ref X) (.ref Mi) = some (decide (X = Mi))
  mx : PySem.W.kitOne K (.ref X) (.ref Mx) = some (decide (X = Mx))
  sh : PySem.W.kitOne K (.ref X) (.ref Sh) = some (decide (X = Sh))
  un : PySem.W.kitOne K (.ref X) (.ref Un) = some (decide (X = Un))
theorem kit_ne {K : PySem.W.Frag} {X Y : Addr} (h1 : PySem.W.kitOne K (.ref X) (.ref X) = some true) (h2 : PySem.W.kitOne K (.ref X) (.ref Y) = some false) : X ≠ Y := fun z => by
  subst z
  rw [h1] at h2
  cases h2
theorem kit_no {K : PySem.W.Frag} {X Y : Addr} (h1 : PySem.W.kitOne K (.ref X) (.ref X) = some true) (h2 : PySem.W.kitOne K (.ref X) (.ref Y) = some false) : PySem.W.kitOne K (.ref X) (.ref Y) = some (decide (X = Y)) := by
  rw [h2, decide_eq_false (kit_ne h1 h2)]
theorem kit_me {K : PySem.W.Frag} {X : Addr} (h1 : PySem.W.kitOne K (.ref X) (.ref X) = some true) : PySem.W.kitOne K (.ref X) (.ref X) = some (decide (X = X)) := by
  rw [h1, decide_eq_true rfl]

end
end Kc

set_option Elab.async false
set_option linter.all false
set_option maxRecDepth 100000
set_option maxHeartbeats 2000000
set_option autoImplicit false
namespace Kc
open PySem L2 Lf M1 M2
section
variable {P : Program} {w : World} {K : PySem.W.Frag} {mg : Str → Option Value} {base : Heap}
open M3
def dBoth (C : Addr) (row mi th : List Int) (tab : List (List Int)) : D := .obj C [("row", .il row), ("mine", .il mi), ("theirs", .il th), ("table", ils tab)]
theorem sc_Both_init : FnScope ["self", "row", "mine", "theirs", "table", "line"] ["self", "row", "mine", "theirs", "table"] (defScope s_Both_init) := ⟨rfl, rfl, rfl, by decide +kernel, rfl, by decide +kernel, by decide +kernel⟩
def p_Both_init (ds : List D) : Prop := ∃ (r a b : List Int) (tab : List (List Int)), ds = [.il r, .il a, .il b, ils tab] ∧ tab.length ≤ 100000
def g_Both_init (C : Addr) (ds : List D) : D := match ds with | [.il r, .il a, .il b, t] => .obj C [("row", .il r), ("mine", .il a), ("theirs", .il b), ("table", t)] | _ => .non
theorem filter_t4 {α β : Type} (f : α → β) (xs : List α) : (xs.filter fun _ => true).map f = xs.map f := by
  rw [List.filter_eq_self.mpr (fun _ _ => rfl)]
theorem ok_Both_init {f : Addr} {fd : FuncData} {C : Addr} (F : Fun K "__init__" "Both.__init__" s_Both_init f fd) (T : Blt mg) (L : Kl K C ["row", "mine", "theirs", "table"]) : FnOk P w K mg base CX0 1 f fd ["self", "row", "mine", "theirs", "table"] (spIU K C p_Both_init (g_Both_init C)) := by
  refine fn_okI (k := 0) F sc_Both_init (by rintro ds ⟨i, j, k, l, rfl, _⟩; rfl) fun cdv A outer s H E hr b ds hp => ?_
  obtain ⟨l0, l1, l2, tab, rfl, hz⟩ := hp
  refine jss_cons (js_fldU 0 rfl (JOI.ju (joi_list T.list (je_v 1 rfl))) (fun g0 eg0 og0 => ?_) L.i.cl (L.no _ (by simp)))
  refine jss_cons (js_fldU 0 rfl (JOI.ju (joi_list T.list (je_v 2 rfl))) (fun g1 eg1 og1 => ?_) L.i.cl (L.no _ (by simp)))
  refine jss_cons (js_fldU 0 rfl (JOI.ju (joi_list T.list (je_v 3 rfl))) (fun g2 eg2 og2 => ?_) L.i.cl (L.no _ (by simp)))
  refine jss_one (js_fldU 0 rfl (JU.eq (d1 := ils tab) (ju_lc (own := [("line", 5)]) (l' := .frs) (Tst := fun _ => true) (f := fun d => d) (ρd := fun d => (wipeE _ 5).set 5 (some (.v .frs d))) (ji_lst (je_v 4 rfl)) (fun d hd _ _ _ _ _ => jgb_name 5 sc_Both_init.nd) (fun _ _ _ _ _ _ _ => jts_nil) (fun d hd _ _ _ _ _ _ => by
    obtain ⟨l, _, rfl⟩ := List.mem_map.mp hd
    exact JOI.ju (joi_list T.list (je_v 5 rfl))) sc_Both_init.nd (blkOk_by (N := ["self", "row", "mine", "theirs", "table", "line"]) (sc := defScope s_Both_init) (by decide +kernel)) (by rw [List.length_map]; exact hz)) (by rw [filter_t4, List.map_id']; rfl)) (fun g3 eg3 og3 => ?_) L.i.cl (L.no _ (by simp)) (hs := rfl))
  refine ⟨_, _, rfl, ?_, ?_⟩
  · show D.obj C [("row", erase g0), ("mine", erase g1), ("theirs", erase g2), ("table", erase g3)] = _
    rw [eg0, eg1, eg2, eg3]
    rfl
  · show (true && (okG g0 && (okG g1 && (okG g2 && (okG g3 && true))))) = true
    rw [og0, og1, og2, og3]
    rfl
theorem sc_Both_shows : FnScope ["self", "one", "other"] ["self", "one", "other"] (defScope s_Both_shows) := ⟨rfl, rfl, rfl, by decide +kernel, rfl, by decide +kernel, by decide +kernel⟩
def p_Both_shows (C : Addr) (ds : List D) : Prop := ∃ (r a b : List Int) (tab : List (List Int)) (ns ms : List Int), ds = [dBoth C r a b tab, .il ns, .il ms] ∧ r.length ≤ 1000 ∧ ns.length ≤ 1000 ∧ ms.length ≤ 1000
noncomputable def g_Both_shows (ds : List D) : D := match ds with | [.obj _ [(_, .il r), (_, .il a), (_, .il b), (_, .lst t)], .il ns, .il ms] => .bl (dec (∃ tab, t = tab.map D.il ∧ bothF ns ms r a b tab = true)) | _ => .non
theorem g_both (C : Addr) (r a b : List Int) (tab : List (List Int)) (ns ms : List Int) : g_Both_shows [dBoth C r a b tab, .il ns, .il ms] = .bl (bothF ns ms r a b tab) := by
  show D.bl (dec _) = _
  congr 1
  rw [Bool.eq_iff_iff]
  constructor
  · intro h
    obtain ⟨t', e, q⟩ := of_dec h
    rw [map_il_inj e]
    exact q
  · intro h
    exact dec_t ⟨tab, rfl, h⟩
theorem ok_Both_shows {f : Addr} {fd : FuncData} {C : Addr} (F : Fun K "shows" "Both.shows" s_Both_shows f fd) (T : Blt mg) (L : Kl K C ["row", "mine", "theirs", "table"]) (C_stands : Callee P w K mg base 2 "stands" p_stands g_stands) (C_is_table : Callee P w K mg base 1 "is_table" p_is_table g_is_table) : FnOk P w K mg base CX0 3 f fd ["self", "one", "other"] (spF K (p_Both_shows C) g_Both_shows) := by
  refine fn_ok (k := 2) F sc_Both_shows (by rintro ds ⟨i, j, k, l, m, n, rfl, _⟩; rfl) fun cdv A outer s H E hr ds hp => ?_
  obtain ⟨row, mi, th, tab, ns, ms, rfl, hz0, hz, hz2⟩ := hp
  rw [g_both]
  have n0 := L.no "row" (by simp)
  have n1 := L.no "mine" (by simp)
  have n2 := L.no "theirs" (by simp)
  have n3 := L.no "table" (by simp)
  refine jss_cons (js_if (JW.pt (jw_or (jt_not (jt_v (v := stdF row mi ns) (je_call C_stands hr (ja_cons (je_fld (d := .il row) (je_v 0 rfl) L.i.cl n0 rfl) (ja_cons (je_fld (d := .il mi) (je_v 0 rfl) L.i.cl n1 rfl) (ja_cons (je_v 1 rfl) ja_nil))) ⟨_, _, _, rfl, hz0⟩))) (fun _ => (jw_or1 (jt_not (jt_v (v := stdF row th ms) (je_call C_stands hr (ja_cons (je_fld (d := .il row) (je_v 0 rfl) L.i.cl n0 rfl) (ja_cons (je_fld (d := .il th) (je_v 0 rfl) L.i.cl n2 rfl) (ja_cons (je_v 2 rfl) ja_nil))) ⟨_, _, _, rfl, hz0⟩))))))) (fun c => ?_) (fun c => ?_))
  · refine jss_one (js_ret je_bl ?_)
    congr 1
    symm
    apply both_no
    intro q
    rw [q.s1, q.s2] at c
    cases c
  refine jss_nil ?_
  rw [Bool.or_eq_false_iff] at c
  have c1 : stdF row mi ns = true := by simpa using c.1
  have c2 : stdF row th ms = true := by simpa using c.2
  refine jss_cons (js_if (jt_not (jt_v (v := dec (TabOk ns ms tab)) (je_call C_is_table hr (ja_cons (je_v 1 rfl) (ja_cons (je_v 2 rfl) (ja_cons (je_fld (d := ils tab) (je_v 0 rfl) L.i.cl n3 rfl) ja_nil))) ⟨_, _, _, rfl, hz, hz2⟩ (g_tab ns ms tab)))) (fun c => ?_) (fun c => ?_))
  · refine jss_one (js_ret je_bl ?_)
    congr 1
    symm
    apply both_no
    intro q
    rw [dec_t q.t] at c
    cases c
  refine jss_nil ?_
  have ht : TabOk ns ms tab := of_dec (by simpa using c)
  refine jss_one (js_ret (je_c (jc_eq (je_add (je_len T.len (je_fld (d := .il row) (je_v 0 rfl) L.i.cl n0 rfl)) (je_lastCell (n := ns.length) (m := ms.length) (je_fld (d := ils tab) (je_v 0 rfl) L.i.cl n3 rfl) (je_neg je_int) (je_neg je_int) ht.n (ht.m _ (Nat.le_refl _)))) (je_add (je_len T.len (je_v 1 rfl)) (je_len T.len (je_v 2 rfl))))) ?_)
  congr 1
  unfold bothF
  rw [c1, c2, dec_t ht]
  rfl
theorem sc_shortest : FnScope ["one", "other", "table", "mine", "theirs", "row", "first", "second", "i", "j", "place", "another"] ["one", "other"] (defScope s_shortest) := ⟨rfl, rfl, rfl, by decide +kernel, rfl, by decide +kernel, by decide +kernel⟩
def p_shortest (ds : List D) : Prop := ∃ (one other : List Int), ds = [.il one, .il other] ∧ one.length ≤ 400 ∧ other.length ≤ 400
structure ShR (C : Addr) (one other : List Int) (d : D) : Prop where
  ex : ∃ row mi th : List Int, d = dBoth C row mi th (tabF one other) ∧ bothF one other row mi th (tabF one other) = true
def r_shortest (C : Addr) (ds : List D) (d : D) : Prop := ∃ (one other : List Int), ds = [.il one, .il other] ∧ ShR C one other d
theorem r_shortest_iff {C : Addr} {one other : List Int} {d : D} (h : r_shortest C [.il one, .il other] d) : ShR C one other d := by
  obtain ⟨r, o, e, h⟩ := h
  injection e with e1 e2
  injection e2 with e2 e3
  injection e1 with e1
  injection e2 with e2
  subst e1 e2
  exact h
def muS (n B : Nat) (ρ : PEnv) : Nat := match List.getD ρ n none with | some (Lf.E.v _ (D.int i)) => B - i.toNat | _ => 0
theorem ok_shortest {f : Addr} {fd : FuncData} {C : Addr} (F : Fun K "shortest" "shortest" s_shortest f fd) (T : Blt mg) (C_check_row : Callee P w K mg base 2 "check_row" p_check_row g_check_row) (C_table_of : Callee P w K mg base 1 "table_of" p_table_of g_table_of) (C_common_places : Callee P w K mg base 1 "common_places" p_common_places g_common_places)
    (M_Both : MakerU P w K mg base 1 "Both" C p_Both_init (g_Both_init C)) : FnOk P w K mg base CX0 3 f fd ["one", "other"] (spUR K p_shortest (r_shortest C)) := by
  refine fn_okUR (k := 2) F sc_shortest (by rintro ds ⟨i, j, rfl, _⟩; rfl) fun cdv A outer s H E hr ds hp => ?_
  obtain ⟨one, other, rfl, hz, hz2⟩ := hp
  refine jss_cons (js_expr (je_call (d := .non) C_check_row hr (ja_cons (je_v 0 rfl) ja_nil) ⟨_, rfl, by omega⟩) ?_)
  refine jss_cons (js_expr (je_call (d := .non) C_check_row hr (ja_cons (je_v 1 rfl) ja_nil) ⟨_, rfl, by omega⟩) ?_)
  refine jss_cons (js_set 2 (je_call (d := ils (tabF one other)) C_table_of hr (ja_cons (je_v 0 rfl) (ja_cons (je_v 1 rfl) ja_nil)) ⟨_, _, rfl, by omega, by omega⟩) ?_ (by decide) sc_shortest.nd)
  refine jss_cons (js_asg (je_call (d := .tup [.il (M2.places one other).1, .il (M2.places one other).2]) C_common_places hr (ja_cons (je_v 0 rfl) (ja_cons (je_v 1 rfl) (ja_cons (je_v 2 rfl) ja_nil))) ⟨_, _, rfl, by omega, by omega⟩) (jg_pair 3 4 sc_shortest.nd) ?_)
  refine jss_cons (js_parO3 5 6 7 joi_nil joi_nil joi_nil ?_ sc_shortest.nd)
  refine jss_cons (js_asg (je_tup (l := .frs) (ja_cons je_int (ja_cons je_int ja_nil))) (jg_pair 8 9 sc_shortest.nd) ?_)
  have hlo := longOk one other
  have hlen2 : (M2.places one other).2.length = (M2.places one other).1.length := by
    have := congrArg List.length hlo.e
    rw [List.length_map, List.length_map] at this
    exact this.symm
  have hml : (M2.places one other).1.length ≤ one.length := by
    have := risF_len _ _ (-1) (by omega) (by omega) hlo.r1
    omega
  have hch := ch_of (M2.places one other).1 (M2.places one other).2 0 0 (Nat.zero_le _) (Nat.zero_le _) (by exact hlo.r1) (by exact hlo.r2) hlo.e
  have hzl : ((M2.places one other).1.zip (M2.places one other).2 ++ [((one.length : Int), (other.length : Int))]).length = (M2.places one other).1.length + 1 := by
    rw [List.length_append, List.length_zip, List.length_singleton]
    omega
  refine jss_cons (js_for (fun rest ρ => ∃ (i j : Nat) (zs : List (Int × Int)) (row fi se : List Int) (x10 x11 : Option Lf.E), (Ch one other i j zs ∨ zs = [] ∧ i = one.length ∧ j = other.length) ∧ PO row fi (one.take i) ∧ PO row se (other.take j) ∧ row.length + (M2.places one other).1.length = i + j + (zs.length - 1) ∧ row.length ≤ i + j ∧ i ≤ one.length ∧ j ≤ other.length ∧ rest = zs.map (fun p => D.tup [.int p.1, .int p.2]) ∧ ρ = [some (.v .imm (.il one)), some (.v .imm (.il other)), some (.v .frs (ils (tabF one other))), some (.v .frs (.il (M2.places one other).1)), some (.v .frs (.il (M2.places one other).2)), some (.ownI row), some (.ownI fi), some (.ownI se), some (.v .frs (.int i)), some (.v .frs (.int j)), x10, x11])
    (ji_lst (JO.je (jo_cat (l := .frs) (JO.je (jo_listZip T.list T.zip (je_v 3 rfl) (je_v 4 rfl) (by omega))) (JO.je (jo_lst (l := .frs) (ja_cons (je_tup (l := .frs) (ja_cons (je_len T.len (je_v 0 rfl)) (ja_cons (je_len T.len (je_v 1 rfl)) ja_nil))) ja_nil))) (hz := by unfold zipI; rw [List.length_map, List.length_zip]; show _ + 1 ≤ _; omega))))
    ⟨0, 0, _, [], [], [], none, none, .inl hch, .nil, .nil, by rw [hzl]; show 0 + _ = 0 + 0 + _; omega, Nat.zero_le _, Nat.zero_le _, Nat.zero_le _, by rw [List.map_append]; rfl, rfl⟩ (fun d rest ρ' hv => ?_) (fun ρ' hv => ?_))
  · obtain ⟨i, j, zs, row, fi, se, x10, x11, hC, po1, po2, hl, hle, hi, hj, hrest, rfl⟩ := hv
    cases zs with
    | nil => cases hrest
    | cons z zs =>
      obtain ⟨rfl, rfl⟩ := List.cons.inj hrest
      obtain ⟨p, a, hz1, hp1, hp2, ha1, ha2, hnext⟩ : ∃ p a : Nat, z = ((p : Int), (a : Int)) ∧ i ≤ p ∧ p ≤ one.length ∧ j ≤ a ∧ a ≤ other.length ∧ ((p < one.length ∧ a < other.length ∧ gI one (p : Int) = gI other (a : Int) ∧ zs ≠ [] ∧ Ch one other (p + 1) (a + 1) zs) ∨ (p = one.length ∧ a = other.length ∧ zs = [])) := by
        rcases hC with hC | ⟨h, _⟩
        · cases hC with
          | last h1 h2 => exact ⟨_, _, rfl, h1, Nat.le_refl _, h2, Nat.le_refl _, .inr ⟨rfl, rfl, rfl⟩⟩
          | cons h1 h2 h3 h4 h5 h6 => exact ⟨_, _, rfl, h1, by omega, h3, by omega, .inl ⟨h2, h4, h5, (fun q => by subst q; cases h6), h6⟩⟩
        · cases h
      subst hz1
      refine ⟨_, jg_pair 10 11 sc_shortest.nd, ?_⟩
      refine jss_cons (js_while (fun ρ => ∃ (i' : Nat) (row' fi' : List Int), i ≤ i' ∧ i' ≤ p ∧ PO row' fi' (one.take i') ∧ PO row' se (other.take j) ∧ row'.length + i = row.length + i' ∧ ρ = [some (.v .imm (.il one)), some (.v .imm (.il other)), some (.v .frs (ils (tabF one other))), some (.v .frs (.il (M2.places one other).1)), some (.v .frs (.il (M2.places one other).2)), some (.ownI row'), some (.ownI fi'), some (.ownI se), some (.v .frs (.int i')), some (.v .frs (.int j)), some (.v .frs (.int p)), some (.v .frs (.int a))]) (muS 8 p) ⟨i, row, fi, Nat.le_refl _, hp1, po1, po2, rfl, rfl⟩ (fun ρ' hv => ?_))
      · obtain ⟨i', row', fi', g1, g2, q1, q2, g3, rfl⟩ := hv
        refine ⟨_, (jt_c (jc_lt (je_v 8 rfl) (je_v 10 rfl))), fun c => ?_, fun c => ?_⟩
        · have c' := of_decide_eq_true c
          have hlt : i' < one.length := by omega
          have hfl := q1.len
          rw [List.length_take] at hfl
          have hm : muS 8 p [some (.v .imm (.il one)), some (.v .imm (.il other)), some (.v .frs (ils (tabF one other))), some (.v .frs (.il (M2.places one other).1)), some (.v .frs (.il (M2.places one other).2)), some (.ownI row'), some (.ownI fi'), some (.ownI se), some (.v .frs (.int i')), some (.v .frs (.int j)), some (.v .frs (.int p)), some (.v .frs (.int a))] = p - i' := by
            show p - ((i' : Nat) : Int).toNat = _
            rw [Int.toNat_natCast]
          rw [hm]
          refine jss_cons (js_appI 6 rfl (je_len T.len (je_oI 5 rfl)) ?_ (by omega))
          refine jss_cons (js_appI 5 rfl (je_ixI (je_v 0 rfl) (je_v 8 rfl) (inR_at rfl hlt)) ?_ (by omega))
          refine jss_one (js_augA 8 rfl je_int ?_ sc_shortest.nd)
          refine ⟨⟨i' + 1, row' ++ [gI one (i' : Int)], fi' ++ [(row'.length : Int)], by omega, by omega, ?_, q2.grow _, by rw [List.length_append, List.length_singleton]; omega, rfl⟩, ?_⟩
          · rw [take_snoc hlt]
            exact q1.snoc _
          · show p - (((i' : Nat) : Int) + 1).toNat < p - i'
            omega
        · have c' := of_decide_eq_false c
          have ei : i' = p := by omega
          subst ei
          refine jss_cons (js_while (fun ρ => ∃ (j' : Nat) (row2 se' : List Int), j ≤ j' ∧ j' ≤ a ∧ PO row2 fi' (one.take i') ∧ PO row2 se' (other.take j') ∧ row2.length + j = row'.length + j' ∧ ρ = [some (.v .imm (.il one)), some (.v .imm (.il other)), some (.v .frs (ils (tabF one other))), some (.v .frs (.il (M2.places one other).1)), some (.v .frs (.il (M2.places one other).2)), some (.ownI row2), some (.ownI fi'), some (.ownI se'), some (.v .frs (.int i')), some (.v .frs (.int j')), some (.v .frs (.int i')), some (.v .frs (.int a))]) (muS 9 a) ⟨j, row', se, Nat.le_refl _, ha1, q1, q2, rfl, rfl⟩ (fun ρ' hv => ?_))
          obtain ⟨j', row2, se', g4, g5, q3, q4, g6, rfl⟩ := hv
          refine ⟨_, (jt_c (jc_lt (je_v 9 rfl) (je_v 11 rfl))), fun c => ?_, fun c => ?_⟩
          · have c' := of_decide_eq_true c
            have hlt : j' < other.length := by omega
            have hfl := q4.len
            rw [List.length_take] at hfl
            have hm : muS 9 a [some (.v .imm (.il one)), some (.v .imm (.il other)), some (.v .frs (ils (tabF one other))), some (.v .frs (.il (M2.places one other).1)), some (.v .frs (.il (M2.places one other).2)), some (.ownI row2), some (.ownI fi'), some (.ownI se'), some (.v .frs (.int i')), some (.v .frs (.int j')), some (.v .frs (.int i')), some (.v .frs (.int a))] = a - j' := by
              show a - ((j' : Nat) : Int).toNat = _
              rw [Int.toNat_natCast]
            rw [hm]
            refine jss_cons (js_appI 7 rfl (je_len T.len (je_oI 5 rfl)) ?_ (by omega))
            refine jss_cons (js_appI 5 rfl (je_ixI (je_v 1 rfl) (je_v 9 rfl) (inR_at rfl hlt)) ?_ (by omega))
            refine jss_one (js_augA 9 rfl je_int ?_ sc_shortest.nd)
            refine ⟨⟨j' + 1, row2 ++ [gI other (j' : Int)], se' ++ [(row2.length : Int)], by omega, by omega, q3.grow _, ?_, by rw [List.length_append, List.length_singleton]; omega, rfl⟩, ?_⟩
            · rw [take_snoc hlt]
              exact q4.snoc _
            · show a - (((j' : Nat) : Int) + 1).toNat < a - j'
              omega
          · have c' := of_decide_eq_false c
            have ej : j' = a := by omega
            subst ej
            have hf3 := q3.len
            have hf4 := q4.len
            rw [List.length_take] at hf3 hf4
            rw [List.length_cons] at hl
            refine jss_one (js_if (JW.pt (jw_and (jt_c (jc_lt (je_v 10 rfl) (je_len T.len (je_v 0 rfl)))) (fun _ => (jw_and1 (jt_c (jc_lt (je_v 11 rfl) (je_len T.len (je_v 1 rfl)))))))) (fun c => ?_) (fun c => ?_))
            · rw [Bool.and_eq_true, decide_eq_true_eq, decide_eq_true_eq] at c
              rcases hnext with ⟨w1, w2, w3, w4, w5⟩ | ⟨w1, w2, w3⟩
              · refine jss_cons (js_appI 6 rfl (je_len T.len (je_oI 5 rfl)) ?_ (by omega))
                refine jss_cons (js_appI 7 rfl (je_len T.len (je_oI 5 rfl)) ?_ (by omega))
                refine jss_cons (js_appI 5 rfl (je_ixI (je_v 0 rfl) (je_v 10 rfl) (inR_at rfl w1)) ?_ (by omega))
                refine jss_cons (js_augA 8 rfl je_int ?_ sc_shortest.nd)
                refine jss_one (js_augA 9 rfl je_int ?_ sc_shortest.nd)
                have hzp : 0 < zs.length := List.length_pos_iff.mpr w4
                refine ⟨i' + 1, j' + 1, zs, row2 ++ [gI one (i' : Int)], fi' ++ [(row2.length : Int)], se' ++ [(row2.length : Int)], _, _, .inl w5, ?_, ?_, by rw [List.length_append, List.length_singleton]; omega, by rw [List.length_append, List.length_singleton]; omega, w1, w2, rfl, rfl⟩
                · rw [take_snoc w1]
                  exact q3.snoc _
                · rw [take_snoc w2, w3]
                  exact q4.snoc _
              · omega
            · rcases hnext with ⟨w1, w2, w3, w4, w5⟩ | ⟨w1, w2, w3⟩
              · rw [decide_eq_true (show (i' : Int) < (one.length : Int) by omega), decide_eq_true (show (j' : Int) < (other.length : Int) by omega)] at c
                cases c
              · subst w3
                rw [List.length_nil] at hl
                exact jss_nil ⟨i', j', [], row2, fi', se', _, _, .inr ⟨rfl, w1, w2⟩, q3, q4, by rw [List.length_nil]; omega, by omega, hp2, ha2, rfl, rfl⟩
  obtain ⟨i, j, zs, row, fi, se, x10, x11, hC, po1, po2, hl, hle, hi, hj, hrest, rfl⟩ := hv
  have : zs = [] := by cases zs with | nil => rfl | cons _ _ => cases hrest
  subst this
  have hij : i = one.length ∧ j = other.length := by
    rcases hC with hC | ⟨_, h⟩
    · cases hC
    · exact h
  obtain ⟨rfl, rfl⟩ := hij
  rw [List.length_nil] at hl
  refine jss_keepI 5 rfl ?_
  refine jss_keepI 6 rfl ?_
  refine jss_keepI 7 rfl ?_
  refine jss_one (js_retU (ju_make (d := dBoth C row fi se (tabF one other)) M_Both hr (ja_cons (je_v 5 rfl) (ja_cons (je_v 6 rfl) (ja_cons (je_v 7 rfl) (ja_cons (je_v 2 rfl) ja_nil)))) ⟨_, _, _, _, rfl, by rw [tabF_len]; omega⟩) ?_)
  exact ⟨one, other, rfl, ⟨row, fi, se, rfl, both_all po1 po2 (by omega) hlo.k⟩⟩

end
end Kc

set_option Elab.async false
set_option linter.all false
set_option maxRecDepth 100000
set_option maxHeartbeats 2000000
set_option autoImplicit false
namespace Kc
open PySem L2 Lf M1 M2
section
variable {P : Program} {w : World} {K : PySem.W.Frag} {mg : Str → Option Value} {base : Heap}
open M4
def kI (x : Int) : Int × D := (x, .bl true)
theorem look_kI {met : List Int} {s : Int} : (lookP (met.map kI) s).isSome = decide (s ∈ met) := by
  unfold lookP
  rw [Option.isSome_map, List.find?_map, Option.isSome_map, Bool.eq_iff_iff, List.find?_isSome, decide_eq_true_eq]
  constructor
  · rintro ⟨q, h1, h2⟩
    exact (show q = s from of_decide_eq_true h2) ▸ h1
  · intro h
    exact ⟨s, h, decide_eq_true rfl⟩
theorem put_kI {met : List Int} {s : Int} : putP (met.map kI) s (.bl true) = (insK met s).map kI := by
  unfold putP insK
  have e : ((met.map kI).any fun kv => decide (kv.1 = s)) = true ↔ s ∈ met := by
    rw [List.any_map, List.any_eq_true]
    constructor
    · rintro ⟨q, h1, h2⟩
      exact (show q = s from of_decide_eq_true h2) ▸ h1
    · intro h
      exact ⟨s, h, decide_eq_true rfl⟩
  by_cases h : s ∈ met
  · rw [if_pos (e.mpr h), if_pos h, List.map_map]
    apply List.map_congr_left
    intro q _
    show (if q = s then (q, D.bl true) else (q, .bl true)) = kI q
    split <;> rfl
  · rw [if_neg (fun z => h (e.mp z)), if_neg h, List.map_append]
    rfl
def dMis (C : Addr) (cuts word : List Int) : D := .obj C [("cuts", .il cuts), ("word", .il word)]
theorem sc_check_kinds : FnScope ["kinds"] ["kinds"] (defScope s_check_kinds) := ⟨rfl, rfl, rfl, by decide +kernel, rfl, by decide +kernel, by decide +kernel⟩
def p_check_kinds (ds : List D) : Prop := ∃ k : Int, ds = [.int k] ∧ 1 ≤ k
def g_check_kinds (_ : List D) : D := .non
theorem ok_check_kinds {f : Addr} {fd : FuncData} (F : Fun K "check_kinds" "check_kinds" s_check_kinds f fd) (T : Blt mg) (C_is_number : Callee P w K mg base 1 "is_number" p_is_number g_is_number) : FnOk P w K mg base CX0 2 f fd ["kinds"] (spF K p_check_kinds g_check_kinds) := by
  refine fn_ok (k := 1) F sc_check_kinds (by rintro ds ⟨i, rfl, _⟩; rfl) fun cdv A outer s H E hr ds hp => ?_
  obtain ⟨k, rfl, hk⟩ := hp
  refine jss_one (js_if (JW.pt (jw_or (jt_not (jt_v (v := true) (je_call C_is_number hr (ja_cons (je_v 0 rfl) ja_nil) ⟨_, rfl⟩))) (fun _ => (jw_or1 (jt_c (jc_lt (je_v 0 rfl) je_int)))))) (fun c => ?_) (fun c => ?_))
  · rw [decide_eq_false (show ¬ k < 1 by omega)] at c
    cases c
  · exact jss_nil rfl
theorem sc_Missing_init : FnScope ["self", "cuts", "word"] ["self", "cuts", "word"] (defScope s_Missing_init) := ⟨rfl, rfl, rfl, by decide +kernel, rfl, by decide +kernel, by decide +kernel⟩
def p_Missing_init (ds : List D) : Prop := ∃ (a b : List Int), ds = [.il a, .il b]
def g_Missing_init (C : Addr) (ds : List D) : D := match ds with | [.il a, .il b] => dMis C a b | _ => .non
theorem ok_Missing_init {f : Addr} {fd : FuncData} {C : Addr} (F : Fun K "__init__" "Missing.__init__" s_Missing_init f fd) (T : Blt mg) (L : Kl K C ["cuts", "word"]) : FnOk P w K mg base CX0 1 f fd ["self", "cuts", "word"] (spIU K C p_Missing_init (g_Missing_init C)) := by
  refine fn_okI (k := 0) F sc_Missing_init (by rintro ds ⟨i, j, rfl⟩; rfl) fun cdv A outer s H E hr b ds hp => ?_
  obtain ⟨l0, l1, rfl⟩ := hp
  refine jss_cons (js_fldU 0 rfl (JOI.ju (joi_list T.list (je_v 1 rfl))) (fun g0 eg0 og0 => ?_) L.i.cl (L.no _ (by simp)))
  refine jss_one (js_fldU 0 rfl (JOI.ju (joi_list T.list (je_v 2 rfl))) (fun g1 eg1 og1 => ?_) L.i.cl (L.no _ (by simp)))
  refine ⟨_, _, rfl, ?_, ?_⟩
  · show D.obj C [("cuts", erase g0), ("word", erase g1)] = dMis C l0 l1
    rw [eg0, eg1]
    rfl
  · show (true && (okG g0 && (okG g1 && true))) = true
    rw [og0, og1]
    rfl
theorem sc_Missing_shows : FnScope ["self", "row", "kinds", "begin", "cut", "sign"] ["self", "row", "kinds"] (defScope s_Missing_shows) := ⟨rfl, rfl, rfl, by decide +kernel, rfl, by decide +kernel, by decide +kernel⟩
def p_Missing_shows (C : Addr) (ds : List D) : Prop := ∃ (cuts word row : List Int) (k : Int), ds = [dMis C cuts word, .il row, .int k] ∧ row.length ≤ 1000 ∧ 0 ≤ k ∧ word.length ≤ 1000
def g_Missing_shows (ds : List D) : D := match ds with | [.obj _ [(_, .il cuts), (_, .il word)], .il row, .int k] => .bl (misF row k cuts word) | _ => .non
theorem all_inr (k : Int) (xs : List Int) : (xs.map fun x => (decide (0 ≤ x) && decide (x < k))).all id = xs.all (inr k) := by
  rw [List.all_map]
  rfl
theorem ok_Missing_shows {f : Addr} {fd : FuncData} {C : Addr} (F : Fun K "shows" "Missing.shows" s_Missing_shows f fd) (T : Blt mg) (L : Kl K C ["cuts", "word"]) (C_earliest : Callee P w K mg base 1 "earliest" p_earliest g_earliest) : FnOk P w K mg base CX0 2 f fd ["self", "row", "kinds"] (spF K (p_Missing_shows C) g_Missing_shows) := by
  refine fn_ok (k := 1) F sc_Missing_shows (by rintro ds ⟨i, j, k, l, rfl, _⟩; rfl) fun cdv A outer s H E hr ds hp => ?_
  obtain ⟨cuts, word, row, k, rfl, hz, hk, hzw⟩ := hp
  have n0 := L.no "cuts" (by simp)
  have n1 := L.no "word" (by simp)
  refine jss_cons (js_set 3 je_int ?_ (by decide) sc_Missing_shows.nd)
  refine jss_cons (js_forI (fun rest ρ => ∃ (b : Int) (x4 : Option Lf.E), 0 ≤ b ∧ cutsF row k 0 cuts = cutsF row k b rest ∧ ρ = [some (.v .imm (dMis C cuts word)), some (.v .imm (.il row)), some (.v .imm (.int k)), some (.v .frs (.int b)), x4, none]) (ji_list (je_fld (d := .il cuts) (je_v 0 rfl) L.i.cl n0 rfl)) ⟨0, none, Int.le_refl _, rfl, rfl⟩ (fun c rest ρ' hv => ?_) (fun ρ' hv => ?_))
  · obtain ⟨b, x4, hb, he, rfl⟩ := hv
    refine ⟨_, jg_name 4 sc_Missing_shows.nd, ?_⟩
    have hsl := cutL_length row (some b) (some c)
    refine jss_cons (js_if (jt_not (jt_ltle (je_v 3 rfl) (je_v 4 rfl) (je_len T.len (je_v 1 rfl)))) (fun h => ?_) (fun h => ?_))
    · refine jss_one (js_ret je_bl ?_)
      show D.bl false = .bl (misF row k cuts word)
      have h' : (decide (b < c) && decide (c ≤ (row.length : Int))) = false := by cases z : (decide (b < c) && decide (c ≤ (row.length : Int))) with | false => rfl | true => rw [z] at h; cases h
      unfold misF
      rw [he, cutsF, h']
      rfl
    refine jss_nil ?_
    have h' : (decide (b < c) && decide (c ≤ (row.length : Int))) = true := by cases z : (decide (b < c) && decide (c ≤ (row.length : Int))) with | true => rfl | false => rw [z] at h; cases h
    refine jss_cons (js_if (jt_c (jc_lt (je_lenSet T.len T.set (JOI.je (joi_lcI (x := "sign") (n := 5) (Tst := inr k) (f := fun x => x) (ji_list (JOI.je (joi_cut (je_v 1 rfl) (jp_some (je_v 3 rfl)) (jp_some (je_v 4 rfl))))) (fun _ _ _ _ _ _ => jgb_name 5 sc_Missing_shows.nd) (fun k hk _ _ _ _ _ => (jts_one (jt_lelt je_int (je_v 5 rfl) (je_v 2 rfl)))) (fun k hk ht _ _ _ _ _ => (je_v 5 rfl)) sc_Missing_shows.nd (blkOk_by (N := ["self", "row", "kinds", "begin", "cut", "sign"]) (sc := defScope s_Missing_shows) (by decide +kernel)) (by omega))) (by rw [List.length_map]; exact Nat.le_trans (List.length_filter_le _ _) (by omega))) (je_v 2 rfl))) (fun q => ?_) (fun q => ?_))
    · rw [List.map_id'] at q
      have q' : (cnt k (cutL row (some b) (some c)) : Int) < k := of_decide_eq_true q
      refine jss_one (js_ret je_bl ?_)
      show D.bl false = .bl (misF row k cuts word)
      unfold misF
      rw [he, cutsF, decide_eq_false (show ¬ (cnt k (cutL row (some b) (some c)) : Int) = k by omega), Bool.false_and, Bool.and_false, Bool.false_and]
    refine jss_nil ?_
    rw [List.map_id'] at q
    have q' : ¬ (cnt k (cutL row (some b) (some c)) : Int) < k := of_decide_eq_false q
    have q2 := cnt_le hk (cutL row (some b) (some c))
    refine jss_one (js_set 3 (JE.sc (l' := .frs) (je_v 4 rfl) rfl) ?_ (by decide) sc_Missing_shows.nd)
    have hbc : b < c := by
      rw [Bool.and_eq_true, decide_eq_true_eq] at h'
      exact h'.1
    refine ⟨c, _, by omega, ?_, rfl⟩
    rw [he, cutsF, h', decide_eq_true (show (cnt k (cutL row (some b) (some c)) : Int) = k by omega)]
    rfl
  obtain ⟨b, x4, hb, he, rfl⟩ := hv
  have hc : cutsF row k 0 cuts = true := he
  refine jss_cons (js_if (JW.pt (jw_or (jt_c (jc_ne (je_len T.len (je_fld (d := .il word) (je_v 0 rfl) L.i.cl n1 rfl)) (je_add (je_len T.len (je_fld (d := .il cuts) (je_v 0 rfl) L.i.cl n0 rfl)) je_int))) (fun _ => (jw_or1 (jt_not (jt_v (v := word.all (inr k)) (JE.eq (je_all (bs := word.map fun x => (decide (0 ≤ x) && decide (x < k))) T.all (JO.je (jo_mapB (x := "sign") (n := 5) (f := fun x => (decide (0 ≤ x) && decide (x < k))) (ji_list (je_fld (d := .il word) (je_v 0 rfl) L.i.cl n1 rfl)) (fun _ _ _ _ _ _ => jgb_name 5 sc_Missing_shows.nd) (fun k hk _ _ _ _ _ => (je_lelt je_int (je_v 5 rfl) (je_v 2 rfl))) sc_Missing_shows.nd (blkOk_by (N := ["self", "row", "kinds", "begin", "cut", "sign"]) (sc := defScope s_Missing_shows) (by decide +kernel)) (by omega)))) (congrArg D.bl (all_inr k word)))))))) ) (fun h => ?_) (fun h => ?_))
  · refine jss_one (js_ret je_bl ?_)
    show D.bl false = .bl (misF row k cuts word)
    congr 1
    symm
    unfold misF
    cases h1 : decide ((word.length : Int) = (cuts.length : Int) + 1)
    · rw [Bool.false_and, Bool.and_false]
    · rw [h1] at h
      have h2 : word.all (inr k) = false := by simpa using h
      rw [h2, Bool.false_and, Bool.and_false, Bool.and_false]
  refine jss_nil ?_
  rw [Bool.or_eq_false_iff] at h
  have h1 : decide ((word.length : Int) = (cuts.length : Int) + 1) = true := by simpa using h.1
  have h2 : word.all (inr k) = true := by simpa using h.2
  refine jss_one (js_ret (je_c (jc_lt (je_len T.len (je_call (d := .il (eF 0 row word)) C_earliest hr (ja_cons (je_v 1 rfl) (ja_cons (je_fld (d := .il word) (je_v 0 rfl) L.i.cl n1 rfl) ja_nil)) ⟨_, _, rfl, hz, hzw⟩)) (je_len T.len (je_fld (d := .il word) (je_v 0 rfl) L.i.cl n1 rfl)))) ?_)
  show D.bl _ = .bl (misF row k cuts word)
  unfold misF
  rw [hc, h1, h2, not_left_iff]
  rfl
theorem sc_missing : FnScope ["row", "kinds", "cuts", "word", "met", "sign", "place"] ["row", "kinds"] (defScope s_missing) := ⟨rfl, rfl, rfl, by decide +kernel, rfl, by decide +kernel, by decide +kernel⟩
def p_missing (ds : List D) : Prop := ∃ (row : List Int) (k : Int), ds = [.il row, .int k] ∧ row.length ≤ 1000 ∧ 1 ≤ k
structure MsR (C : Addr) (row : List Int) (k : Int) (d : D) : Prop where
  ex : ∃ cuts word : List Int, d = dMis C cuts word ∧ misF row k cuts word = true
def r_missing (C : Addr) (ds : List D) (d : D) : Prop := ∃ (row : List Int) (k : Int), ds = [.il row, .int k] ∧ MsR C row k d
theorem r_missing_iff {C : Addr} {row : List Int} {k : Int} {d : D} (h : r_missing C [.il row, .int k] d) : MsR C row k d := by
  obtain ⟨r, o, e, h⟩ := h
  injection e with e1 e2
  injection e2 with e2 e3
  injection e1 with e1
  injection e2 with e2
  subst e1 e2
  exact h
def muSg (B : Nat) (ρ : PEnv) : Nat := match List.getD ρ 5 none with | some (Lf.E.v _ (D.int i)) => B - i.toNat | _ => 0
theorem ok_missing {f : Addr} {fd : FuncData} {C : Addr} (F : Fun K "missing" "missing" s_missing f fd) (T : Blt mg) (C_check_row : Callee P w K mg base 2 "check_row" p_check_row g_check_row) (C_check_kinds : Callee P w K mg base 2 "check_kinds" p_check_kinds g_check_kinds)
    (M_Missing : MakerU P w K mg base 1 "Missing" C p_Missing_init (g_Missing_init C)) : FnOk P w K mg base CX0 3 f fd ["row", "kinds"] (spUR K p_missing (r_missing C)) := by
  refine fn_okUR (k := 2) F sc_missing (by rintro ds ⟨i, j, rfl, _⟩; rfl) fun cdv A outer s H E hr ds hp => ?_
  obtain ⟨row, k, rfl, hz, hk⟩ := hp
  have hu1 : (A.deeper (PyProof.Rows.envOfC "missing" (defScope s_missing) s.heap.objs.size f cdv)).units + 1 < cLine := by have := hr.un; omega
  refine jss_cons (js_expr (je_call (d := .non) C_check_row hr (ja_cons (je_v 0 rfl) ja_nil) ⟨_, rfl, hz⟩) ?_)
  refine jss_cons (js_expr (je_call (d := .non) C_check_kinds hr (ja_cons (je_v 1 rfl) ja_nil) ⟨_, rfl, hk⟩) ?_)
  refine jss_cons (js_setOI 2 joi_nil ?_ sc_missing.nd)
  refine jss_cons (js_setOI 3 joi_nil ?_ sc_missing.nd)
  refine jss_cons (js_setDI 4 (l := .frs) ?_ (by decide) sc_missing.nd)
  refine jss_cons (js_for (fun rest ρ => ∃ (n : Nat) (rs cuts word met : List Int) (x5 x6 : Option Lf.E), row.drop n = rs ∧ rest = enumF n rs ∧ Mst row k n cuts word met ∧
      ρ = [some (.v .imm (.il row)), some (.v .imm (.int k)), some (.ownI cuts), some (.ownI word), some (.dI .frs (met.map kI)), x5, x6]) (ji_enum T.enumerate (je_v 0 rfl)) ⟨0, row, [], [], [], none, none, rfl, enumI_eq row, Mst.start hk, rfl⟩ (fun d rest ρ' hv => ?_) (fun ρ' hv => ?_))
  · obtain ⟨n, rs, cuts, word, met, x5, x6, hrs, hrest, hm, rfl⟩ := hv
    cases rs with
    | nil => cases hrest
    | cons r rs =>
      obtain ⟨rfl, rfl⟩ := List.cons.inj hrest
      have hget : row[n]? = some r := by
        have := congrArg (fun l : List Int => l[0]?) hrs
        simpa using this
      have hdrop : row.drop (n + 1) = rs := by
        have := congrArg (fun l : List Int => l.drop 1) hrs
        rw [List.drop_drop] at this
        simpa using this
      have hml := hm.ml
      have hcl := hm.cl
      have hwl := hm.wl
      have hln := hm.ln
      have hmn : met.length ≤ row.length := sub_len hm.nd fun x hx => List.mem_of_mem_take (List.mem_of_mem_drop ((hm.mm x).mp hx).1)
      refine ⟨_, jg_pair 6 5 sc_missing.nd, ?_⟩
      refine jss_one (js_if (jt_lelt je_int (je_v 5 rfl) (je_v 1 rfl)) (fun c => ?_) (fun c => ?_))
      · have hin : inr k r = true := c
        refine jss_cons (js_putI 4 hu1 rfl je_bl (je_v 5 rfl) ?_ (by rw [List.length_map]; omega))
        rw [put_kI]
        refine jss_one (js_if (jt_c (jc_eq (je_lenDI (pl := ⟨0, 0, 0, 0⟩) 4 T.len rfl) (je_v 1 rfl))) (fun q => ?_) (fun q => ?_))
        · rw [List.length_map] at q
          have q' := of_decide_eq_true q
          refine jss_cons (js_appI 2 rfl (je_add (je_v 6 rfl) je_int) ?_ (by omega))
          refine jss_cons (js_appI 3 rfl (je_v 5 rfl) ?_ (by omega))
          refine jss_one (js_setDI 4 (l := .frs) ?_ (by decide) sc_missing.nd)
          exact ⟨n + 1, rs, _, _, [], _, _, hdrop, rfl, hm.full hget hin q', rfl⟩
        · rw [List.length_map] at q
          have q' := of_decide_eq_false q
          exact jss_nil ⟨n + 1, rs, cuts, word, insK met r, _, _, hdrop, rfl, hm.ins hget hin q', rfl⟩
      · have hin : inr k r = false := c
        exact jss_nil ⟨n + 1, rs, cuts, word, met, _, _, hdrop, rfl, hm.out hget hin, rfl⟩
  obtain ⟨n, rs, cuts, word, met, x5, x6, hrs, hrest, hm, rfl⟩ := hv
  have : rs = [] := by cases rs with | nil => rfl | cons _ _ => cases hrest
  subst this
  have hn : n = row.length := by
    have h1 := hm.ln
    have h2 := congrArg List.length hrs
    rw [List.length_drop, List.length_nil] at h2
    omega
  subst hn
  refine jss_cons (js_set 5 je_int ?_ (by decide) sc_missing.nd)
  refine jss_cons (js_while (fun ρ => ∃ t : Nat, (∀ i : Nat, i < t → (i : Int) ∈ met) ∧ ρ = [some (.v .imm (.il row)), some (.v .imm (.int k)), some (.ownI cuts), some (.ownI word), some (.dI .frs (met.map kI)), some (.v .frs (.int t)), x6]) (muSg (met.length + 1)) ⟨0, fun i h => absurd h (Nat.not_lt_zero _), rfl⟩ (fun ρ' hv => ?_))
  obtain ⟨t, ht, rfl⟩ := hv
  refine ⟨_, (jt_c (jc_dinI 4 hu1 (je_v 5 rfl) rfl)), fun c => ?_, fun c => ?_⟩
  · rw [look_kI] at c
    have hin : (t : Int) ∈ met := of_decide_eq_true c
    have ht' : ∀ i : Nat, i < t + 1 → (i : Int) ∈ met := fun i h => by
      rcases Nat.lt_succ_iff_lt_or_eq.mp h with q | rfl
      · exact ht i q
      · exact hin
    have := run_len ht'
    have hmu : muSg (met.length + 1) [some (.v .imm (.il row)), some (.v .imm (.int k)), some (.ownI cuts), some (.ownI word), some (.dI .frs (met.map kI)), some (.v .frs (.int t)), x6] = met.length + 1 - t := by
      show met.length + 1 - ((t : Nat) : Int).toNat = _
      rw [Int.toNat_natCast]
    rw [hmu]
    refine jss_one (js_augA 5 rfl je_int ?_ sc_missing.nd)
    refine ⟨⟨t + 1, ht', rfl⟩, ?_⟩
    show met.length + 1 - (((t : Nat) : Int) + 1).toNat < _
    omega
  · rw [look_kI] at c
    have hin : (t : Int) ∉ met := of_decide_eq_false c
    have hrl := run_len ht
    have hml := hm.ml
    refine jss_keepI 2 rfl ?_
    refine jss_keepI 3 rfl ?_
    have hwl := hm.wl
    have hcl := hm.cl
    refine jss_one (js_retU (ju_make (d := dMis C cuts (word ++ [(t : Int)])) M_Missing hr (ja_cons (je_v 2 rfl) (ja_cons (JOI.je (joi_cat (je_v 3 rfl) (JOI.je (joi_lst (l := .frs) (ns := [(t : Int)]) (ja_cons (je_v 5 rfl) ja_nil))) (by show _ + 1 ≤ _; omega))) ja_nil)) ⟨_, _, rfl⟩) ?_)
    exact ⟨row, k, rfl, ⟨cuts, _, rfl, hm.fin hin (by omega)⟩⟩

end
end Kc

set_option Elab.async false
set_option linter.all false
set_option maxRecDepth 100000
set_option maxHeartbeats 2000000
set_option autoImplicit false
namespace Kc
open PySem L2 Lf M1 M2
section
variable {P : Program} {w : World} {K : PySem.W.Frag} {mg : Str → Option Value} {base : Heap}
open M4
variable {An Bo Le Lo Mi Mx Sh Un : Addr}
abbrev N_missed : List Str := ["_law_row_here", "_law_kinds", "_law_cuts", "_law_word", "_law_begins", "_law_begin", "_law_end", "_law_sign"]
theorem sc_law_missed : FnScope N_missed ["_law_row_here", "_law_kinds", "_law_cuts", "_law_word"] (defScope s_law_missed) := ⟨rfl, rfl, rfl, by decide +kernel, rfl, by decide +kernel, by decide +kernel⟩
def p_law_missed (ds : List D) : Prop := ∃ (row : List Int) (k : Int) (cuts word : List Int), ds = [.il row, .int k, .il cuts, .il word] ∧ row.length ≤ 63 ∧ 0 ≤ k ∧ word.length ≤ 1000 ∧ cuts.length ≤ 1000
def g_law_missed (ds : List D) : D := match ds with | [.il row, .int k, .il cuts, .il word] => .bl (misF row k cuts word) | _ => .non
theorem any_out (k : Int) (xs : List Int) : (xs.map fun x => !(decide (0 ≤ x) && decide (x < k))).any id = !xs.all (inr k) := by
  induction xs with
  | nil => rfl
  | cons x r ih =>
    rw [List.map_cons, List.any_cons, ih, List.all_cons]
    show (!inr k x || !r.all (inr k)) = !(inr k x && r.all (inr k))
    rw [Bool.not_and]
theorem ok_law_missed {f : Addr} {fd : FuncData} (F : Fun K "_law_missed" "_law_missed" s_law_missed f fd) (T : Blt mg) (C_law_is_left : Callee P w K mg base 1 "_law_is_left" p_law_is_left g_law_is_left) : FnOk P w K mg base CX0 2 f fd ["_law_row_here", "_law_kinds", "_law_cuts", "_law_word"] (spF K p_law_missed g_law_missed) := by
  refine fn_ok (k := 1) F sc_law_missed (by rintro ds ⟨i, j, k, l, rfl, _⟩; rfl) fun cdv A outer s H E hr ds hp => ?_
  obtain ⟨row, k, cuts, word, rfl, hz, hk, hzw, hzc⟩ := hp
  refine jss_cons (js_if (JW.pt (jw_or (jt_c (jc_ne (je_len T.len (je_v 3 rfl)) (je_add (je_len T.len (je_v 2 rfl)) je_int))) (fun _ => (jw_or (jt_v (v := !word.all (inr k)) (JE.eq (je_any (bs := word.map fun x => !(decide (0 ≤ x) && decide (x < k))) T.any (JO.je (jo_mapB (x := "_law_sign") (n := 7) (f := fun x => !(decide (0 ≤ x) && decide (x < k))) (ji_list (je_v 3 rfl)) (fun _ _ _ _ _ _ => jgb_name 7 sc_law_missed.nd) (fun k hk _ _ _ _ _ => (je_not (je_lelt je_int (je_v 7 rfl) (je_v 1 rfl)))) sc_law_missed.nd (blkOk_by (N := N_missed) (sc := defScope s_law_missed) (by decide +kernel)) (by omega)))) (congrArg D.bl (any_out k word)))) (fun _ => (jw_or1 (jt_v (v := isLeft row word) (je_call C_law_is_left hr (ja_cons (je_v 0 rfl) (ja_cons (je_v 3 rfl) ja_nil)) ⟨_, _, rfl⟩)))))))) (fun c => ?_) (fun c => ?_))
  · refine jss_one (js_ret je_bl ?_)
    show D.bl false = .bl (misF row k cuts word)
    congr 1
    symm
    unfold misF
    cases h1 : decide ((word.length : Int) = (cuts.length : Int) + 1)
    · rw [Bool.false_and, Bool.and_false]
    · cases h2 : word.all (inr k)
      · rw [Bool.false_and, Bool.and_false, Bool.and_false]
      · rw [h1, h2] at c
        have h3 : isLeft row word = true := c
        rw [h3]
        simp
  refine jss_nil ?_
  rw [Bool.or_eq_false_iff, Bool.or_eq_false_iff] at c
  have h1 : decide ((word.length : Int) = (cuts.length : Int) + 1) = true := by simpa using c.1
  have h2 : word.all (inr k) = true := by simpa using c.2.1
  have h3 : isLeft row word = false := c.2.2
  have hmis : misF row k cuts word = cutsF row k 0 cuts := by
    unfold misF
    rw [h1, h2, h3]
    simp
  refine jss_cons (js_set 4 (JOI.je (joi_cat (JOI.je (joi_lst (l := .frs) (ns := [0]) (ja_cons je_int ja_nil))) (je_v 2 rfl) (by show 1 + _ ≤ _; omega))) ?_ (by decide) sc_law_missed.nd)
  refine jss_cons (js_for (fun rest ρ => ∃ (b : Int) (cs : List Int) (x5 x6 : Option Lf.E), 0 ≤ b ∧ cutsF row k 0 cuts = cutsF row k b cs ∧ rest = zipI (b :: cs) cs ∧ ρ = [some (.v .imm (.il row)), some (.v .imm (.int k)), some (.v .imm (.il cuts)), some (.v .imm (.il word)), some (.v .frs (.il (0 :: cuts))), x5, x6, none]) (ji_zip T.zip (je_v 4 rfl) (je_v 2 rfl)) ⟨0, cuts, none, none, Int.le_refl _, rfl, rfl, rfl⟩ (fun d rest ρ' hv => ?_) (fun ρ' hv => ?_))
  · obtain ⟨b, cs, x5, x6, hb, he, hrest, rfl⟩ := hv
    cases cs with
    | nil => cases hrest
    | cons c cs =>
      obtain ⟨rfl, rfl⟩ := List.cons.inj hrest
      have hsl := cutL_length row (some b) (some c)
      refine ⟨_, jg_pair 5 6 sc_law_missed.nd, ?_⟩
      refine jss_cons (js_if (jt_not (jt_ltle (je_v 5 rfl) (je_v 6 rfl) (je_len T.len (je_v 0 rfl)))) (fun h => ?_) (fun h => ?_))
      · refine jss_one (js_ret je_bl ?_)
        show D.bl false = .bl (misF row k cuts word)
        have h' : (decide (b < c) && decide (c ≤ (row.length : Int))) = false := by cases z : (decide (b < c) && decide (c ≤ (row.length : Int))) with | false => rfl | true => rw [z] at h; cases h
        rw [hmis, he, cutsF, h']
        rfl
      refine jss_nil ?_
      have h' : (decide (b < c) && decide (c ≤ (row.length : Int))) = true := by cases z : (decide (b < c) && decide (c ≤ (row.length : Int))) with | true => rfl | false => rw [z] at h; cases h
      have hbc : b < c := by
        rw [Bool.and_eq_true, decide_eq_true_eq] at h'
        exact h'.1
      refine jss_one (js_if (jt_c (jc_ne (je_len T.len (JOI.je (joi_lcI (ns := sortU (cutL row (some b) (some c))) (x := "_law_sign") (n := 7) (Tst := inr k) (f := fun x => x) (ji_list (JOI.je (joi_sortedSet (ns := cutL row (some b) (some c)) T.sorted T.set (JOI.je (joi_cut (je_v 0 rfl) (jp_some (je_v 5 rfl)) (jp_some (je_v 6 rfl)))) (by omega)))) (fun _ _ _ _ _ _ => jgb_name 7 sc_law_missed.nd) (fun k hk _ _ _ _ _ => (jts_one (jt_lelt je_int (je_v 7 rfl) (je_v 1 rfl)))) (fun k hk ht _ _ _ _ _ => (je_v 7 rfl)) sc_law_missed.nd (blkOk_by (N := N_missed) (sc := defScope s_law_missed) (by decide +kernel)) (by
        have : (sortU (cutL row (some b) (some c))).length ≤ (cutL row (some b) (some c)).length := sub_len (nodup_of_pw (pw_sortU _)) fun x hx => mem_sortU.mp hx
        omega)))) (je_v 1 rfl))) (fun q => ?_) (fun q => ?_))
      · rw [List.map_id', cnt_sorted] at q
        have q' : ¬ (cnt k (cutL row (some b) (some c)) : Int) = k := by simpa using q
        refine jss_one (js_ret je_bl ?_)
        show D.bl false = .bl (misF row k cuts word)
        rw [hmis, he, cutsF, decide_eq_false q', Bool.false_and, Bool.and_false]
      · rw [List.map_id', cnt_sorted] at q
        have q' : (cnt k (cutL row (some b) (some c)) : Int) = k := by simpa using q
        refine jss_nil ⟨c, cs, _, _, by omega, ?_, rfl, rfl⟩
        rw [he, cutsF, h', decide_eq_true q']
        rfl
  obtain ⟨b, cs, x5, x6, hb, he, hrest, rfl⟩ := hv
  have : cs = [] := by cases cs with | nil => rfl | cons _ _ => cases hrest
  subst this
  refine jss_one (js_ret je_bl ?_)
  show D.bl true = .bl (misF row k cuts word)
  rw [hmis, he]
  rfl
end
end Kc

set_option Elab.async false
set_option linter.all false
set_option maxRecDepth 100000
set_option maxHeartbeats 2000000
set_option autoImplicit false
namespace Kc
open PySem L2 Lf M1 M2
section
variable {P : Program} {w : World} {K : PySem.W.Frag} {mg : Str → Option Value} {base : Heap}
def tp (p : M5.Pr) : D := .tup [.int p.1, .int p.2]
def dUn (C : Addr) (ws : List M5.Pr) : D := .obj C [("pairs", prs ws)]
theorem tp_inj {p q : M5.Pr} (h : tp p = tp q) : p = q := by
  unfold tp at h
  injection h with h
  injection h with h1 h2
  injection h2 with h2 h3
  injection h1 with h1
  injection h2 with h2
  exact Prod.ext h1 h2
theorem tps_inj : ∀ {a b : List M5.Pr}, a.map tp = b.map tp → a = b
  | [], [], _ => rfl
  | [], _ :: _, h => by cases h
  | _ :: _, [], h => by cases h
  | x :: a, y :: b, h => by
    rw [List.map_cons, List.map_cons] at h
    obtain ⟨h1, h2⟩ := List.cons.inj h
    rw [tp_inj h1, tps_inj h2]
def kv (e : M5.Pr × M5.Pr) : List Int × D := ([e.1.1, e.1.2], tp e.2)
theorem key_eq {p : M5.Pr} {i j : Int} : ([p.1, p.2] = [i, j]) ↔ p = (i, j) := by
  constructor
  · intro h
    simp at h
    exact Prod.ext h.1 h.2
  · rintro rfl
    rfl
theorem look_kv (L : List (M5.Pr × M5.Pr)) (i j : Int) : lookP (L.map kv) [i, j] = (L.find? fun e => decide (e.1 = (i, j))).map fun e => tp e.2 := by
  unfold lookP
  rw [List.find?_map, Option.map_map]
  have : ((fun kv : List Int × D => decide (kv.1 = [i, j])) ∘ kv) = fun e => decide (e.1 = (i, j)) := funext fun e => decide_eq_decide.mpr key_eq
  rw [this]
  rfl
theorem look_in {L : List (M5.Pr × M5.Pr)} {i j : Int} : (lookP (L.map kv) [i, j]).isSome = decide ((i, j) ∈ M5.ks L) := by
  rw [look_kv, Option.isSome_map, Bool.eq_iff_iff, List.find?_isSome, decide_eq_true_eq]
  unfold M5.ks
  rw [List.mem_map]
  constructor
  · rintro ⟨e, h1, h2⟩
    exact ⟨e, h1, of_decide_eq_true h2⟩
  · rintro ⟨e, h1, h2⟩
    exact ⟨e, h1, decide_eq_true h2⟩
theorem look_at {L : List (M5.Pr × M5.Pr)} {p : M5.Pr} (h : p ∈ M5.ks L) : ∃ e, e ∈ L ∧ e.1 = p ∧ lookP (L.map kv) [p.1, p.2] = some (tp e.2) := by
  obtain ⟨e, h1, h2⟩ := List.mem_map.mp h
  cases h3 : L.find? fun e => decide (e.1 = (p.1, p.2)) with
  | none => exact absurd (decide_eq_true h2) (by have := List.find?_eq_none.mp h3 e h1; exact this)
  | some e' => exact ⟨e', List.mem_of_find?_eq_some h3, by have := List.find?_some h3; exact of_decide_eq_true this, by rw [look_kv, h3]; rfl⟩
theorem put_kv {L : List (M5.Pr × M5.Pr)} {q p : M5.Pr} (h : q ∉ M5.ks L) : putP (L.map kv) [q.1, q.2] (tp p) = (L ++ [(q, p)]).map kv := by
  unfold putP
  rw [if_neg, List.map_append]
  · rfl
  · rw [List.any_map]
    intro z
    obtain ⟨e, h1, h2⟩ := List.any_eq_true.mp z
    exact h (List.mem_map.mpr ⟨e, h1, key_eq.mp (of_decide_eq_true h2)⟩)
/-- the keys alone -/
def ku (p : M5.Pr) : List Int × D := ([p.1, p.2], .bl true)
def ins (U : List M5.Pr) (p : M5.Pr) : List M5.Pr := if p ∈ U then U else U ++ [p]
theorem mem_ins {U : List M5.Pr} {p q : M5.Pr} : q ∈ ins U p ↔ q ∈ U ∨ q = p := by
  unfold ins
  split
  · rename_i h
    exact ⟨.inl, fun z => z.elim id fun e => e ▸ h⟩
  · rw [List.mem_append, List.mem_singleton]
theorem len_ins (U : List M5.Pr) (p : M5.Pr) : (ins U p).length ≤ U.length + 1 := by
  unfold ins
  split
  · omega
  · rw [List.length_append]; exact Nat.le_refl _
theorem put_ku {U : List M5.Pr} {p : M5.Pr} : putP (U.map ku) [p.1, p.2] (.bl true) = (ins U p).map ku := by
  unfold putP ins
  have e : ((U.map ku).any fun kv => decide (kv.1 = [p.1, p.2])) = true ↔ p ∈ U := by
    rw [List.any_map, List.any_eq_true]
    constructor
    · rintro ⟨q, h1, h2⟩
      exact (show q = p from key_eq.mp (of_decide_eq_true h2)) ▸ h1
    · intro h
      exact ⟨p, h, decide_eq_true rfl⟩
  by_cases h : p ∈ U
  · rw [if_pos (e.mpr h), if_pos h, List.map_map]
    apply List.map_congr_left
    intro q _
    show (if ([q.1, q.2] : List Int) = [p.1, p.2] then (([q.1, q.2] : List Int), D.bl true) else ([q.1, q.2], .bl true)) = ku q
    split <;> rfl
  · rw [if_neg (fun z => h (e.mp z)), if_neg h, List.map_append]
    rfl
theorem look_ku {U : List M5.Pr} {i j : Int} : (lookP (U.map ku) [i, j]).isSome = decide ((i, j) ∈ U) := by
  unfold lookP
  rw [Option.isSome_map, List.find?_map, Option.isSome_map, Bool.eq_iff_iff, List.find?_isSome, decide_eq_true_eq]
  constructor
  · rintro ⟨q, h1, h2⟩
    exact key_eq.mp (of_decide_eq_true h2) ▸ h1
  · intro h
    exact ⟨(i, j), h, decide_eq_true rfl⟩
theorem leaf_tps (ws : List M5.Pr) : (ws.map fun p => D.tup [.int p.1, .int p.2]).all leafD = true := by
  rw [List.all_map]
  exact List.all_eq_true.mpr fun _ _ => rfl
theorem sc_steps_on : FnScope ["row", "one", "other", "i", "j", "found"] ["row", "one", "other", "i", "j"] (defScope s_steps_on) := ⟨rfl, rfl, rfl, by decide +kernel, rfl, by decide +kernel, by decide +kernel⟩
def p_steps_on (ds : List D) : Prop := ∃ (row one other : List Int) (p : M5.Pr), ds = [.il row, .il one, .il other, .int p.1, .int p.2] ∧ M5.inb one other p = true ∧ row.length = one.length + other.length
def g_steps_on (ds : List D) : D := match ds with | [.il row, .il one, .il other, .int i, .int j] => prs (M5.stp row one other i j) | _ => .non
theorem ok_steps_on {f : Addr} {fd : FuncData} (F : Fun K "steps_on" "steps_on" s_steps_on f fd) (T : Blt mg) : FnOk P w K mg base CX0 1 f fd ["row", "one", "other", "i", "j"] (spU K p_steps_on g_steps_on) := by
  refine fn_okU (k := 0) F sc_steps_on (by rintro ds ⟨i, j, k, l, rfl, _⟩; rfl) fun cdv A outer s H E hr ds hp => ?_
  obtain ⟨row, one, other, p, rfl, hib, hlen⟩ := hp
  obtain ⟨i, j, rfl, hi, hj⟩ := M5.inb_iff.mp hib
  refine jss_cons (js_setO 5 (l := .frs) (jo_lst ja_nil) ?_ (by decide) sc_steps_on.nd)
  have fin : ∀ a b : List M5.Pr, a = (if (i : Int) < one.length ∧ gI one (i : Int) = gI row ((i : Int) + (j : Int)) then [((i : Int) + 1, (j : Int))] else []) → b = (if (j : Int) < other.length ∧ gI other (j : Int) = gI row ((i : Int) + (j : Int)) then [((i : Int), (j : Int) + 1)] else []) → D.lst ((a.map fun p => D.tup [.int p.1, .int p.2]) ++ (b.map fun p => D.tup [.int p.1, .int p.2])) = g_steps_on [.il row, .il one, .il other, .int (i : Int), .int (j : Int)] := fun a b ha hb => by
    show _ = D.lst ((M5.stp row one other (i : Int) (j : Int)).map fun p => D.tup [.int p.1, .int p.2])
    unfold M5.stp
    rw [List.map_append, ← ha, ← hb]
  refine jss_cons (js_if (JW.pt (jw_and (jt_c (jc_lt (je_v 3 rfl) (je_len T.len (je_v 1 rfl)))) (fun c => (jw_and1 (jt_c (jc_eq (je_ixI (je_v 1 rfl) (je_v 3 rfl) (inR_at rfl (by have := of_decide_eq_true c; omega))) (je_ixI (je_v 0 rfl) (je_add (je_v 3 rfl) (je_v 4 rfl)) (inR_at (Int.natCast_add i j).symm (by have := of_decide_eq_true c; omega))))))))) (fun c => ?_) (fun c => ?_))
  · rw [Bool.and_eq_true, decide_eq_true_eq, decide_eq_true_eq] at c
    refine jss_one (js_app 5 rfl (je_tup (l := .frs) (ja_cons (je_add (je_v 3 rfl) je_int) (ja_cons (JE.sc (l' := .frs) (je_v 4 rfl) rfl) ja_nil))) ?_ (by show 0 < _; decide))
    refine jss_cons (js_if (JW.pt (jw_and (jt_c (jc_lt (je_v 4 rfl) (je_len T.len (je_v 2 rfl)))) (fun c => (jw_and1 (jt_c (jc_eq (je_ixI (je_v 2 rfl) (je_v 4 rfl) (inR_at rfl (by have := of_decide_eq_true c; omega))) (je_ixI (je_v 0 rfl) (je_add (je_v 3 rfl) (je_v 4 rfl)) (inR_at (Int.natCast_add i j).symm (by have := of_decide_eq_true c; omega))))))))) (fun c2 => ?_) (fun c2 => ?_))
    · rw [Bool.and_eq_true, decide_eq_true_eq, decide_eq_true_eq] at c2
      refine jss_one (js_app 5 rfl (je_tup (l := .frs) (ja_cons (JE.sc (l' := .frs) (je_v 3 rfl) rfl) (ja_cons (je_add (je_v 4 rfl) je_int) ja_nil))) ?_ (by show 1 < _; decide))
      exact jss_one (js_retOD 5 rfl (fin [((i : Int) + 1, (j : Int))] [((i : Int), (j : Int) + 1)] (by rw [if_pos c]) (by rw [if_pos c2])) rfl)
    · refine jss_nil ?_
      exact jss_one (js_retOD 5 rfl (fin [((i : Int) + 1, (j : Int))] [] (by rw [if_pos c]) (by rw [if_neg (fun z => by rw [decide_eq_true z.1, decide_eq_true z.2] at c2; cases c2)])) rfl)
  · refine jss_nil ?_
    have c' : ¬ ((i : Int) < one.length ∧ gI one (i : Int) = gI row ((i : Int) + (j : Int))) := fun z => by rw [decide_eq_true z.1, decide_eq_true z.2] at c; cases c
    refine jss_cons (js_if (JW.pt (jw_and (jt_c (jc_lt (je_v 4 rfl) (je_len T.len (je_v 2 rfl)))) (fun c => (jw_and1 (jt_c (jc_eq (je_ixI (je_v 2 rfl) (je_v 4 rfl) (inR_at rfl (by have := of_decide_eq_true c; omega))) (je_ixI (je_v 0 rfl) (je_add (je_v 3 rfl) (je_v 4 rfl)) (inR_at (Int.natCast_add i j).symm (by have := of_decide_eq_true c; omega))))))))) (fun c2 => ?_) (fun c2 => ?_))
    · rw [Bool.and_eq_true, decide_eq_true_eq, decide_eq_true_eq] at c2
      refine jss_one (js_app 5 rfl (je_tup (l := .frs) (ja_cons (JE.sc (l' := .frs) (je_v 3 rfl) rfl) (ja_cons (je_add (je_v 4 rfl) je_int) ja_nil))) ?_ (by show 0 < _; decide))
      exact jss_one (js_retOD 5 rfl (fin [] [((i : Int), (j : Int) + 1)] (by rw [if_neg c']) (by rw [if_pos c2])) rfl)
    · refine jss_nil ?_
      exact jss_one (js_retOD 5 rfl (fin [] [] (by rw [if_neg c']) (by rw [if_neg (fun z => by rw [decide_eq_true z.1, decide_eq_true z.2] at c2; cases c2)])) rfl)
theorem sc_Mixed_init : FnScope ["self", "places"] ["self", "places"] (defScope s_Mixed_init) := ⟨rfl, rfl, rfl, by decide +kernel, rfl, by decide +kernel, by decide +kernel⟩
def p_Mixed_init (ds : List D) : Prop := ∃ ps : List Int, ds = [.il ps]
def g_Mixed_init (C : Addr) (ds : List D) : D := match ds with | [.il ps] => dLeft C ps | _ => .non
theorem ok_Mixed_init {f : Addr} {fd : FuncData} {C : Addr} (F : Fun K "__init__" "Mixed.__init__" s_Mixed_init f fd) (T : Blt mg) (L : Kl K C ["places"]) : FnOk P w K mg base CX0 1 f fd ["self", "places"] (spIU K C p_Mixed_init (g_Mixed_init C)) := by
  refine fn_okI (k := 0) F sc_Mixed_init (by rintro ds ⟨i, rfl⟩; rfl) fun cdv A outer s H E hr b ds hp => ?_
  obtain ⟨ps, rfl⟩ := hp
  refine jss_one (js_fldU 0 rfl (JOI.ju (joi_list T.list (je_v 1 rfl))) (fun g eg og => ?_) L.i.cl (L.no _ (List.mem_cons_self ..)))
  refine ⟨_, _, rfl, ?_, ?_⟩
  · show D.obj C [("places", erase g)] = dLeft C ps
    rw [eg]
    rfl
  · show (true && (okG g && true)) = true
    rw [og]
    rfl
theorem sc_Mixed_shows : FnScope ["self", "row", "one", "other", "place"] ["self", "row", "one", "other"] (defScope s_Mixed_shows) := ⟨rfl, rfl, rfl, by decide +kernel, rfl, by decide +kernel, by decide +kernel⟩
def p_Mixed_shows (C : Addr) (ds : List D) : Prop := ∃ ps row one other : List Int, ds = [dLeft C ps, .il row, .il one, .il other] ∧ row.length ≤ 1000
def g_Mixed_shows (ds : List D) : D := match ds with | [.obj _ [(_, .il ps)], .il row, .il one, .il other] => .bl (M5.mxF row one other ps) | _ => .non
theorem ok_Mixed_shows {f : Addr} {fd : FuncData} {C : Addr} (F : Fun K "shows" "Mixed.shows" s_Mixed_shows f fd) (T : Blt mg) (L : Kl K C ["places"]) (C_stands : Callee P w K mg base 2 "stands" p_stands g_stands) : FnOk P w K mg base CX0 3 f fd ["self", "row", "one", "other"] (spF K (p_Mixed_shows C) g_Mixed_shows) := by
  refine fn_ok (k := 2) F sc_Mixed_shows (by rintro ds ⟨i, j, k, l, rfl, _⟩; rfl) fun cdv A outer s H E hr ds hp => ?_
  obtain ⟨ps, row, one, other, rfl, hz⟩ := hp
  have hu : (A.deeper (PyProof.Rows.envOfC "Mixed.shows" (defScope s_Mixed_shows) s.heap.objs.size f cdv)).units + 64 < cLine := hr.units
  have no := L.no "places" (List.mem_cons_self ..)
  refine jss_cons (js_if (jt_not (jt_v (v := stdF row ps one) (je_call C_stands hr (ja_cons (je_v 1 rfl) (ja_cons (je_fld (d := .il ps) (je_v 0 rfl) L.i.cl no rfl) (ja_cons (je_v 2 rfl) ja_nil))) ⟨_, _, _, rfl, hz⟩))) (fun c => ?_) (fun c => ?_))
  · refine jss_one (js_ret je_bl ?_)
    show D.bl false = .bl (M5.mxF row one other ps)
    unfold M5.mxF
    cases h : stdF row ps one with
    | true => rw [h] at c; cases c
    | false => rfl
  refine jss_nil ?_
  refine jss_one (js_ret (je_c (jc_eqL hu (JOI.je (joi_lcI (x := "place") (n := 4) (Tst := fun k => !decide (k ∈ ps)) (f := gI row) (ji_range T.range (je_len T.len (je_v 1 rfl)) (by omega) (by omega)) (fun _ _ _ _ _ _ => jgb_name 4 sc_Mixed_shows.nd) (fun k hk _ _ _ _ _ => (jts_one (jt_c (jc_notin (je_v 4 rfl) (je_fld (d := .il ps) (je_v 0 rfl) L.i.cl no rfl))))) (fun k hk ht _ _ _ _ _ => (je_ixI (je_v 1 rfl) (je_v 4 rfl) (by obtain ⟨i, hi, rfl⟩ := List.mem_map.mp hk; have := List.mem_range.mp hi; exact inR_at (Int.zero_add _) (by omega)))) sc_Mixed_shows.nd (blkOk_by (N := ["self", "row", "one", "other", "place"]) (sc := defScope s_Mixed_shows) (by decide +kernel)) (by rw [rngI_length]; omega))) (je_v 3 rfl))) ?_)
  show D.bl _ = .bl (M5.mxF row one other ps)
  unfold M5.mxF M5.restF
  have : stdF row ps one = true := by simpa using c
  rw [this, Bool.true_and]
  congr 1
theorem sc_Unmixed_init : FnScope ["self", "pairs"] ["self", "pairs"] (defScope s_Unmixed_init) := ⟨rfl, rfl, rfl, by decide +kernel, rfl, by decide +kernel, by decide +kernel⟩
def p_Unmixed_init (ds : List D) : Prop := ∃ ws : List M5.Pr, ds = [prs ws]
def g_Unmixed_init (C : Addr) (ds : List D) : D := match ds with | [d] => .obj C [("pairs", d)] | _ => .non
theorem ok_Unmixed_init {f : Addr} {fd : FuncData} {C : Addr} (F : Fun K "__init__" "Unmixed.__init__" s_Unmixed_init f fd) (T : Blt mg) (L : Kl K C ["pairs"]) : FnOk P w K mg base CX0 1 f fd ["self", "pairs"] (spIU K C p_Unmixed_init (g_Unmixed_init C)) := by
  refine fn_okI (k := 0) F sc_Unmixed_init (by rintro ds ⟨i, rfl⟩; rfl) fun cdv A outer s H E hr b ds hp => ?_
  obtain ⟨ws, rfl⟩ := hp
  refine jss_one (js_fldU 0 rfl (JO.ju (jo_list T.list (je_v 1 rfl)) (leaf_tps ws)) (fun g eg og => ?_) L.i.cl (L.no _ (List.mem_cons_self ..)))
  refine ⟨_, _, rfl, ?_, ?_⟩
  · show D.obj C [("pairs", erase g)] = dUn C ws
    rw [eg]
    rfl
  · show (true && (okG g && true)) = true
    rw [og]
    rfl

end
end Kc

set_option Elab.async false
set_option linter.all false
set_option maxRecDepth 100000
set_option maxHeartbeats 2000000
set_option autoImplicit false
namespace Kc
open PySem L2 Lf M1 M2
section
variable {P : Program} {w : World} {K : PySem.W.Frag} {mg : Str → Option Value} {base : Heap}
theorem sc_Unmixed_shows : FnScope ["self", "row", "one", "other", "held", "i", "j", "after"] ["self", "row", "one", "other"] (defScope s_Unmixed_shows) := ⟨rfl, rfl, rfl, by decide +kernel, rfl, by decide +kernel, by decide +kernel⟩
def p_Unmixed_shows (C : Addr) (ds : List D) : Prop := ∃ (ws : List M5.Pr) (row one other : List Int), ds = [dUn C ws, .il row, .il one, .il other] ∧ ws.length ≤ 20000
noncomputable def g_Unmixed_shows (ds : List D) : D := match ds with | [.obj _ [(_, .lst t)], .il row, .il one, .il other] => .bl (dec (∃ ws : List M5.Pr, t = ws.map tp ∧ M5.unF row one other ws = true)) | _ => .non
theorem g_un (C : Addr) (ws : List M5.Pr) (row one other : List Int) : g_Unmixed_shows [dUn C ws, .il row, .il one, .il other] = .bl (M5.unF row one other ws) := by
  show D.bl (dec _) = _
  congr 1
  rw [Bool.eq_iff_iff]
  constructor
  · intro h
    obtain ⟨ws', e, q⟩ := of_dec h
    rw [tps_inj e]
    exact q
  · intro h
    exact dec_t ⟨ws, rfl, h⟩
theorem un_head {row one other : List Int} {ws : List M5.Pr} (h : (!decide ((row.length : Int) = (one.length : Int) + (other.length : Int)) || (!decide (((0 : Int), (0 : Int)) ∈ ws) || decide (((one.length : Int), (other.length : Int)) ∈ ws))) = true) : M5.unF row one other ws = false := by
  unfold M5.unF
  cases h1 : decide (((0 : Int), (0 : Int)) ∈ ws)
  · simp
  · cases h2 : decide (((one.length : Int), (other.length : Int)) ∈ ws)
    · rw [h1, h2] at h
      have : ¬ row.length = one.length + other.length := fun z => by rw [decide_eq_true (show (row.length : Int) = (one.length : Int) + (other.length : Int) by omega)] at h; cases h
      rw [decide_eq_false this]
      rfl
    · simp
theorem un_rest {row one other : List Int} {ws : List M5.Pr} (h : (!decide ((row.length : Int) = (one.length : Int) + (other.length : Int)) || (!decide (((0 : Int), (0 : Int)) ∈ ws) || decide (((one.length : Int), (other.length : Int)) ∈ ws))) = false) : row.length = one.length + other.length ∧ M5.unF row one other ws = (ws.all (M5.inb one other) && ws.all fun p => (M5.stp row one other p.1 p.2).all fun q => decide (q ∈ ws)) := by
  rw [Bool.or_eq_false_iff, Bool.or_eq_false_iff] at h
  obtain ⟨h1, h2, h3⟩ := h
  have e1 : row.length = one.length + other.length := by
    have : (row.length : Int) = (one.length : Int) + (other.length : Int) := by simpa using h1
    omega
  have e2 : decide (((0 : Int), (0 : Int)) ∈ ws) = true := by simpa using h2
  refine ⟨e1, ?_⟩
  unfold M5.unF
  rw [decide_eq_true e1, e2, h3]
  rfl
theorem inb_dec {one other : List Int} (p : M5.Pr) : (!(decide ((0 : Int) ≤ p.1) && decide (p.1 ≤ (one.length : Int))) || !(decide ((0 : Int) ≤ p.2) && decide (p.2 ≤ (other.length : Int)))) = !M5.inb one other p := by
  unfold M5.inb
  rw [← Bool.decide_and, ← Bool.decide_and, Bool.not_and]
theorem ok_Unmixed_shows {f : Addr} {fd : FuncData} {C : Addr} (F : Fun K "shows" "Unmixed.shows" s_Unmixed_shows f fd) (T : Blt mg) (L : Kl K C ["pairs"]) (C_steps_on : Callee P w K mg base 1 "steps_on" p_steps_on g_steps_on) : FnOk P w K mg base CX0 2 f fd ["self", "row", "one", "other"] (spF K (p_Unmixed_shows C) g_Unmixed_shows) := by
  refine fn_ok (k := 1) F sc_Unmixed_shows (by rintro ds ⟨i, j, k, l, rfl, _⟩; rfl) fun cdv A outer s H E hr ds hp => ?_
  obtain ⟨ws, row, one, other, rfl, hz⟩ := hp
  have hu : (A.deeper (PyProof.Rows.envOfC "Unmixed.shows" (defScope s_Unmixed_shows) s.heap.objs.size f cdv)).units + 65 < cLine := by have := hr.un; omega
  have hu1 : (A.deeper (PyProof.Rows.envOfC "Unmixed.shows" (defScope s_Unmixed_shows) s.heap.objs.size f cdv)).units + 1 < cLine := by omega
  have no := L.no "pairs" (List.mem_cons_self ..)
  rw [g_un]
  refine jss_cons (js_if (JW.pt (jw_or (jt_c (jc_ne (je_len T.len (je_v 1 rfl)) (je_add (je_len T.len (je_v 2 rfl)) (je_len T.len (je_v 3 rfl))))) (fun _ => (jw_or (jt_c (jc_notinP (ws := ws) hu (je_tup (l := .frs) (ja_cons je_int (ja_cons je_int ja_nil))) (je_fld (je_v 0 rfl) L.i.cl no rfl))) (fun _ => (jw_or1 (jt_c (jc_inP (ws := ws) hu (je_tup (l := .frs) (ja_cons (je_len T.len (je_v 2 rfl)) (ja_cons (je_len T.len (je_v 3 rfl)) ja_nil))) (je_fld (je_v 0 rfl) L.i.cl no rfl))))))))) (fun c => ?_) (fun c => ?_))
  · exact jss_one (js_ret je_bl (by rw [un_head c]))
  obtain ⟨hlen, hun⟩ := un_rest c
  refine jss_nil ?_
  refine jss_cons (js_setDT 4 (l := .frs) ?_ (by decide) sc_Unmixed_shows.nd)
  refine jss_cons (js_for (fun rest ρ => ∃ (done rs U : List M5.Pr) (x y : Option Lf.E), ws = done ++ rs ∧ rest = rs.map tp ∧ done.all (M5.inb one other) = true ∧ (∀ p, p ∈ U ↔ p ∈ done) ∧ U.length ≤ done.length ∧
      ρ = [some (.v .imm (dUn C ws)), some (.v .imm (.il row)), some (.v .imm (.il one)), some (.v .imm (.il other)), some (.dT .frs (U.map ku)), x, y, none]) (ji_lst (je_fld (d := prs ws) (je_v 0 rfl) L.i.cl no rfl)) ⟨[], ws, [], none, none, rfl, rfl, rfl, fun _ => Iff.rfl, Nat.le_refl _, rfl⟩ (fun d rest ρ' hv => ?_) (fun ρ' hv => ?_))
  · obtain ⟨done, rs, U, x, y, hws, hrest, hib, hU, hUl, rfl⟩ := hv
    cases rs with
    | nil => cases hrest
    | cons p rs =>
      obtain ⟨rfl, rfl⟩ := List.cons.inj hrest
      refine ⟨_, jg_pair 5 6 sc_Unmixed_shows.nd, ?_⟩
      refine jss_cons (js_if (JW.pt (jw_or (jt_not (jt_lele je_int (je_v 5 rfl) (je_len T.len (je_v 2 rfl)))) (fun _ => (jw_or1 (jt_not (jt_lele je_int (je_v 6 rfl) (je_len T.len (je_v 3 rfl)))))))) (fun c => ?_) (fun c => ?_))
      · rw [inb_dec] at c
        refine jss_one (js_ret je_bl ?_)
        rw [hun, hws, List.all_append, List.all_cons]
        have c' : M5.inb one other p = false := by simpa using c
        rw [c']
        simp
      refine jss_nil ?_
      rw [inb_dec] at c
      have c' : M5.inb one other p = true := by simpa using c
      refine jss_one (js_putT 4 (ks := [p.1, p.2]) hu1 rfl je_bl (je_tup (l := .frs) (ja_cons (JE.sc (l' := .frs) (je_v 5 rfl) rfl) (ja_cons (JE.sc (l' := .frs) (je_v 6 rfl) rfl) ja_nil))) ?_ (by have := congrArg List.length hws; rw [List.length_append, List.length_cons] at this; rw [List.length_map]; omega))
      refine ⟨done ++ [p], rs, ins U p, some (.v .imm (.int p.1)), some (.v .imm (.int p.2)), by rw [hws, List.append_assoc]; rfl, rfl, by rw [List.all_append, hib]; simpa using c', fun q => ?_, ?_, ?_⟩
      · rw [mem_ins, hU, List.mem_append, List.mem_singleton]
      · have := len_ins U p
        rw [List.length_append, List.length_singleton]
        omega
      · rw [put_ku]
        rfl
  obtain ⟨done, rs, U, x, y, hws, hrest, hib, hU, hUl, rfl⟩ := hv
  have : rs = [] := by cases rs with | nil => rfl | cons _ _ => cases hrest
  subst this
  rw [List.append_nil] at hws
  subst hws
  rw [hib, Bool.true_and] at hun
  have hUall : M5.unF row one other ws = U.all fun p => (M5.stp row one other p.1 p.2).all fun q => decide (q ∈ U) := by
    rw [hun, Bool.eq_iff_iff, List.all_eq_true, List.all_eq_true]
    constructor
    · intro h p hp
      have := h p ((hU p).mp hp)
      rw [List.all_eq_true] at this ⊢
      exact fun q hq => decide_eq_true ((hU q).mpr (of_decide_eq_true (this q hq)))
    · intro h p hp
      have := h p ((hU p).mpr hp)
      rw [List.all_eq_true] at this ⊢
      exact fun q hq => decide_eq_true ((hU q).mp (of_decide_eq_true (this q hq)))
  refine jss_cons (js_forKT 4 (l := .frs) (kvs := U.map ku) rfl (fun a o ws' rest ρ => ∃ (dn rs : List M5.Pr) (x y : Option Lf.E), U = dn ++ rs ∧ rest = rs.map ku ∧ (dn.all fun p => (M5.stp row one other p.1 p.2).all fun q => decide (q ∈ U)) = true ∧
      ρ = [some (.v .imm (dUn C ws)), some (.v .imm (.il row)), some (.v .imm (.il one)), some (.v .imm (.il other)), some (.dF a o ws' .frs (U.map ku)), x, y, none]) (fun a o ws' => ⟨[], U, x, y, rfl, rfl, rfl, rfl⟩) (fun a o ws' rest ρ' hv => by obtain ⟨dn, rs, x, y, _, _, _, rfl⟩ := hv; rfl) (fun a o ws' k d rest ρ' hv => ?_) (fun a o ws' ρ' hv => ?_))
  · obtain ⟨dn, rs, x, y, hUd, hrest, hdn, rfl⟩ := hv
    cases rs with
    | nil => cases hrest
    | cons p rs =>
      obtain ⟨hk, rfl⟩ := List.cons.inj hrest
      obtain ⟨rfl, rfl⟩ := Prod.mk.inj hk
      have hpU : p ∈ U := by rw [hUd]; exact List.mem_append_right _ (List.mem_cons_self ..)
      have hpb : M5.inb one other p = true := List.all_eq_true.mp hib p ((hU p).mp hpU)
      refine ⟨_, jg_pairI 5 6 sc_Unmixed_shows.nd, ?_⟩
      have hall : ((((M5.stp row one other p.1 p.2).map fun p => D.tup [.int p.1, .int p.2]).map fun d => match d with | .tup [.int i, .int j] => decide ((i, j) ∈ U) | _ => true).all id) = (M5.stp row one other p.1 p.2).all fun q => decide (q ∈ U) := by
        rw [List.map_map, List.all_map]
        rfl
      refine jss_one (js_if (jt_not (jt_v (je_all T.all (JO.je (jo_mapDB (x := "after") (n := 7) (f := fun d => match d with | .tup [.int i, .int j] => decide ((i, j) ∈ U) | _ => true) (ji_lst (je_call (d := prs (M5.stp row one other p.1 p.2)) C_steps_on hr (ja_cons (je_v 1 rfl) (ja_cons (je_v 2 rfl) (ja_cons (je_v 3 rfl) (ja_cons (je_v 5 rfl) (ja_cons (je_v 6 rfl) ja_nil))))) ⟨row, one, other, p, rfl, hpb, hlen⟩)) (fun _ _ _ _ _ _ _ => jgb_name 7 sc_Unmixed_shows.nd) (fun d hd _ _ _ _ _ => by
        obtain ⟨q, _, rfl⟩ := List.mem_map.mp hd
        exact JE.eq (je_c (jc_inT (ks := [q.1, q.2]) 4 (q := .dF a o ws' .frs (U.map ku)) hu1 (je_v 7 rfl) rfl (.inr ⟨_, _, _, rfl⟩))) (congrArg D.bl look_ku)) sc_Unmixed_shows.nd (blkOk_by (N := ["self", "row", "one", "other", "held", "i", "j", "after"]) (sc := defScope s_Unmixed_shows) (by decide +kernel)) (by
          rw [List.length_map]
          unfold M5.stp
          rw [List.length_append]
          split <;> split <;> simp)))))) (fun c => ?_) (fun c => ?_))
      · rw [hall] at c
        refine jss_one (js_retF je_bl ⟨?_, rfl⟩)
        show D.bl false = .bl (M5.unF row one other ws)
        rw [hUall, hUd, List.all_append, List.all_cons, ← hUd]
        have c' : ((M5.stp row one other p.1 p.2).all fun q => decide (q ∈ U)) = false := by simpa using c
        rw [c']
        simp
      · rw [hall] at c
        have c' : ((M5.stp row one other p.1 p.2).all fun q => decide (q ∈ U)) = true := by simpa using c
        exact jss_nil ⟨dn ++ [p], rs, _, _, by rw [hUd, List.append_assoc]; rfl, rfl, by rw [List.all_append, hdn, List.all_cons, c']; rfl, rfl⟩
  · obtain ⟨dn, rs, x, y, hUd, hrest, hdn, rfl⟩ := hv
    have : rs = [] := by cases rs with | nil => rfl | cons _ _ => cases hrest
    subst this
    rw [List.append_nil] at hUd
    subst hUd
    refine jss_one (js_ret je_bl ?_)
    show D.bl true = .bl (M5.unF row one other ws)
    rw [hUall, hdn]
theorem sc_mixed : FnScope ["row", "one", "other", "came", "waiting", "at", "pair", "places", "after", "ahead", "i", "j"] ["row", "one", "other"] (defScope s_mixed) := ⟨rfl, rfl, rfl, by decide +kernel, rfl, by decide +kernel, by decide +kernel⟩
def p_mixed (ds : List D) : Prop := ∃ (row one other : List Int), ds = [.il row, .il one, .il other] ∧ row.length = one.length + other.length ∧ one.length ≤ 100 ∧ other.length ≤ 100
inductive MixR (Mx Un : Addr) (row one other : List Int) : D → Prop
  | mx (ps : List Int) : M5.mxF row one other ps = true → MixR Mx Un row one other (dLeft Mx ps)
  | un (ws : List M5.Pr) : M5.unF row one other ws = true → ws.length ≤ 15000 → MixR Mx Un row one other (dUn Un ws)
def r_mixed (Mx Un : Addr) (ds : List D) (d : D) : Prop := ∃ (row one other : List Int), ds = [.il row, .il one, .il other] ∧ MixR Mx Un row one other d
theorem r_mixed_iff {Mx Un : Addr} {row one other : List Int} {d : D} (h : r_mixed Mx Un [.il row, .il one, .il other] d) : MixR Mx Un row one other d := by
  obtain ⟨r, o, t, e, h⟩ := h
  injection e with e1 e2
  injection e2 with e2 e3
  injection e3 with e3 e4
  injection e1 with e1
  injection e2 with e2
  injection e3 with e3
  subst e1 e2 e3
  exact h
def muAt (B : Nat) (ρ : PEnv) : Nat := match List.getD ρ 5 none with | some (Lf.E.v _ (D.int i)) => B - i.toNat | _ => 0
def muPair (ρ : PEnv) : Nat := match List.getD ρ 6 none with | some (Lf.E.v _ (D.tup [D.int i, D.int j])) => i.toNat + j.toNat | _ => 0
theorem gD_nth {ds : List D} {n : Nat} {d : D} (h : ds[n]? = some d) : gD ds (n : Int) = d := by
  unfold gD
  rw [if_pos (by omega), Int.toNat_natCast, List.getD_eq_getElem?_getD, h]
  rfl
theorem ok_mixed {f : Addr} {fd : FuncData} {Mx Un : Addr} (F : Fun K "mixed" "mixed" s_mixed f fd) (T : Blt mg) (C_check_row : Callee P w K mg base 2 "check_row" p_check_row g_check_row) (C_steps_on : Callee P w K mg base 1 "steps_on" p_steps_on g_steps_on)
    (M_Mixed : MakerU P w K mg base 1 "Mixed" Mx p_Mixed_init (g_Mixed_init Mx)) (M_Unmixed : MakerU P w K mg base 1 "Unmixed" Un p_Unmixed_init (g_Unmixed_init Un)) : FnOk P w K mg base CX0 3 f fd ["row", "one", "other"] (spUR K p_mixed (r_mixed Mx Un)) := by
  refine fn_okUR (k := 2) F sc_mixed (by rintro ds ⟨i, j, k, rfl, _⟩; rfl) fun cdv A outer s H E hr ds hp => ?_
  obtain ⟨row, one, other, rfl, hlen, hz1, hz2⟩ := hp
  have hu : (A.deeper (PyProof.Rows.envOfC "mixed" (defScope s_mixed) s.heap.objs.size f cdv)).units + 65 < cLine := by have := hr.un; omega
  have hu1 : (A.deeper (PyProof.Rows.envOfC "mixed" (defScope s_mixed) s.heap.objs.size f cdv)).units + 1 < cLine := by omega
  have hu64 : (A.deeper (PyProof.Rows.envOfC "mixed" (defScope s_mixed) s.heap.objs.size f cdv)).units + 64 < cLine := by omega
  have hB : (one.length + 1) * (other.length + 1) ≤ 10201 := Nat.le_trans (Nat.mul_le_mul (Nat.succ_le_succ hz1) (Nat.succ_le_succ hz2)) (by decide)
  refine jss_cons (js_expr (je_call (d := .non) C_check_row hr (ja_cons (je_v 0 rfl) ja_nil) ⟨_, rfl, by omega⟩) ?_)
  refine jss_cons (js_expr (je_call (d := .non) C_check_row hr (ja_cons (je_v 1 rfl) ja_nil) ⟨_, rfl, by omega⟩) ?_)
  refine jss_cons (js_expr (je_call (d := .non) C_check_row hr (ja_cons (je_v 2 rfl) ja_nil) ⟨_, rfl, by omega⟩) ?_)
  refine jss_cons (js_if (jt_c (jc_ne (je_len T.len (je_v 0 rfl)) (je_add (je_len T.len (je_v 1 rfl)) (je_len T.len (je_v 2 rfl))))) (fun c => ?_) (fun c => ?_))
  · rw [decide_eq_true (show (row.length : Int) = (one.length : Int) + (other.length : Int) by omega)] at c
    cases c
  refine jss_nil ?_
  refine jss_cons (js_setDT1 3 (ks := [0, 0]) (l := .frs) hu1 (je_tup (l := .frs) (ja_cons je_int (ja_cons je_int ja_nil))) (je_tup (l := .frs) (ja_cons je_int (ja_cons je_int ja_nil))) ?_ (by decide) sc_mixed.nd)
  refine jss_cons (js_setO 4 (jo_lst (l := .frs) (ja_cons (je_tup (l := .frs) (ja_cons je_int (ja_cons je_int ja_nil))) ja_nil)) ?_ (by decide) sc_mixed.nd)
  refine jss_cons (js_set 5 je_int ?_ (by decide) sc_mixed.nd)
  refine jss_cons (js_while (fun ρ => ∃ (L : List (M5.Pr × M5.Pr)) (at_ : Nat) (x8 x10 x11 : Option Lf.E), M5.Bfs row one other L at_ ∧
      ρ = [some (.v .imm (.il row)), some (.v .imm (.il one)), some (.v .imm (.il other)), some (.dT .frs (L.map kv)), some (.own .frs ((M5.ks L).map tp)), some (.v .frs (.int at_)), none, none, x8, none, x10, x11]) (muAt 10202) ⟨[((0, 0), (0, 0))], 0, none, none, none, M5.Bfs.start, rfl⟩ (fun ρ' hv => ?_))
  · obtain ⟨L, at_, x8, x10, x11, hb, rfl⟩ := hv
    refine ⟨_, (jt_c (jc_lt (je_v 5 rfl) (je_lenD T.len (je_o 4 rfl)))), fun c => ?_, fun c => ?_⟩
    · have c' := of_decide_eq_true c
      have hkl : ((M5.ks L).map tp).length = L.length := by rw [List.length_map]; exact List.length_map ..
      rw [hkl] at c'
      have hlt : at_ < L.length := by omega
      have hsz := hb.size
      have hm : muAt 10202 [some (.v .imm (.il row)), some (.v .imm (.il one)), some (.v .imm (.il other)), some (.dT .frs (L.map kv)), some (.own .frs ((M5.ks L).map tp)), some (.v .frs (.int at_)), none, none, x8, none, x10, x11] = 10202 - at_ := by
        show 10202 - ((at_ : Nat) : Int).toNat = _
        rw [Int.toNat_natCast]
      rw [hm]
      obtain ⟨e, he⟩ : ∃ e, L[at_]? = some e := ⟨_, List.getElem?_eq_getElem hlt⟩
      have hek : e.1 ∈ M5.ks L := List.mem_map.mpr ⟨e, List.mem_of_getElem? he, rfl⟩
      have heb := hb.ib e.1 hek
      refine jss_cons (js_asg (je_ixO 4 rfl (je_v 5 rfl) (inR_at rfl (by rw [hkl]; exact hlt)) (gD_nth (d := tp e.1) (by rw [List.getElem?_map, M5.ks, List.getElem?_map, he]; rfl))) (jg_pair 10 11 sc_mixed.nd) ?_)
      refine jss_cons (js_for (fun rest ρ => ∃ (dn rs : List M5.Pr) (M : List (M5.Pr × M5.Pr)) (y8 : Option Lf.E), M5.stp row one other e.1.1 e.1.2 = dn ++ rs ∧ rest = rs.map tp ∧ M5.Bfs row one other M at_ ∧ M[at_]? = some e ∧ (∀ q, q ∈ dn → q ∈ M5.ks M) ∧
          ρ = [some (.v .imm (.il row)), some (.v .imm (.il one)), some (.v .imm (.il other)), some (.dT .frs (M.map kv)), some (.own .frs ((M5.ks M).map tp)), some (.v .frs (.int at_)), none, none, y8, none, some (.v .frs (.int e.1.1)), some (.v .frs (.int e.1.2))]) (ji_lst (je_call (d := prs (M5.stp row one other e.1.1 e.1.2)) C_steps_on hr (ja_cons (je_v 0 rfl) (ja_cons (je_v 1 rfl) (ja_cons (je_v 2 rfl) (ja_cons (je_v 10 rfl) (ja_cons (je_v 11 rfl) ja_nil))))) ⟨row, one, other, e.1, rfl, heb, hlen⟩)) ⟨[], _, L, x8, rfl, rfl, hb, he, fun _ h => (nomatch h), rfl⟩ (fun d rest ρ' hv => ?_) (fun ρ' hv => ?_))
      · obtain ⟨dn, rs, M, y8, hst, hrest, hbM, heM, hdn, rfl⟩ := hv
        cases rs with
        | nil => cases hrest
        | cons q rs =>
          obtain ⟨rfl, rfl⟩ := List.cons.inj hrest
          have hqs : q ∈ M5.stp row one other e.1.1 e.1.2 := by rw [hst]; exact List.mem_append_right _ (List.mem_cons_self ..)
          have heM' : e.1 ∈ M5.ks M := List.mem_map.mpr ⟨e, List.mem_of_getElem? heM, rfl⟩
          refine ⟨_, jg_name 8 sc_mixed.nd, ?_⟩
          refine jss_one (js_if (jt_c (jc_notinT (ks := [q.1, q.2]) 3 hu1 (je_v 8 rfl) rfl (.inl rfl))) (fun c => ?_) (fun c => ?_))
          · rw [look_in] at c
            have hq : q ∉ M5.ks M := by simpa using c
            have hb2 := hbM.more heM' hqs hq
            have hs2 := hb2.size
            rw [List.length_append, List.length_singleton] at hs2
            refine jss_cons (js_putT 3 (ks := [q.1, q.2]) hu1 rfl (je_tup (l := .frs) (ja_cons (je_v 10 rfl) (ja_cons (je_v 11 rfl) ja_nil))) (je_v 8 rfl) ?_ (by rw [List.length_map]; omega))
            refine jss_one (js_app 4 rfl (je_v 8 rfl) ?_ (by show (List.map tp (M5.ks M)).length < _; rw [List.length_map, M5.ks, List.length_map]; omega))
            refine ⟨dn ++ [q], rs, M ++ [(q, e.1)], some (.v .frs (tp q)), by rw [hst, List.append_assoc]; rfl, rfl, hb2, ?_, fun r hr' => ?_, ?_⟩
            · rw [List.getElem?_append_left (List.getElem?_eq_some_iff.mp heM).1, heM]
            · rw [M5.ks_append]
              rcases List.mem_append.mp hr' with z | z
              · exact List.mem_append_left _ (hdn r z)
              · exact List.mem_append_right _ (by rw [List.mem_singleton] at z; subst z; simp [M5.ks])
            · have h1 := put_kv (p := e.1) hq
              rw [← h1, M5.ks_append, List.map_append]
              rfl
          · rw [look_in] at c
            have hq : q ∈ M5.ks M := by simpa using c
            refine jss_nil ⟨dn ++ [q], rs, M, some (.v .frs (tp q)), by rw [hst, List.append_assoc]; rfl, rfl, hbM, heM, fun r hr' => ?_, rfl⟩
            rcases List.mem_append.mp hr' with z | z
            · exact hdn r z
            · rw [List.mem_singleton] at z; subst z; exact hq
      · obtain ⟨dn, rs, M, y8, hst, hrest, hbM, heM, hdn, rfl⟩ := hv
        have : rs = [] := by cases rs with | nil => rfl | cons _ _ => cases hrest
        subst this
        rw [List.append_nil] at hst
        refine jss_one (js_augA 5 rfl je_int ?_ sc_mixed.nd)
        refine ⟨⟨M, at_ + 1, y8, _, _, hbM.next heM (fun q hq => hdn q (by rw [← hst]; exact hq)), rfl⟩, ?_⟩
        show 10202 - (((at_ : Nat) : Int) + 1).toNat < 10202 - at_
        omega
    · have c' := of_decide_eq_false c
      have hkl : ((M5.ks L).map tp).length = L.length := by rw [List.length_map]; exact List.length_map ..
      rw [hkl] at c'
      have hge : L.length ≤ at_ := by omega
      have hsz := hb.size
      refine jss_cons (js_set 6 (je_tup (l := .frs) (ja_cons (je_len T.len (je_v 1 rfl)) (ja_cons (je_len T.len (je_v 2 rfl)) ja_nil))) ?_ (by decide) sc_mixed.nd)
      refine jss_cons (js_if (jt_c (jc_notinT (ks := [(one.length : Int), (other.length : Int)]) 3 hu1 (je_v 6 rfl) rfl (.inl rfl))) (fun c => ?_) (fun c => ?_))
      · rw [look_in] at c
        have hq : ((one.length : Int), (other.length : Int)) ∉ M5.ks L := by simpa using c
        refine jss_keepO 4 rfl ?_
        refine jss_one (js_retU (ju_make (d := dUn Un (M5.ks L)) M_Unmixed hr (ja_cons (je_v 4 rfl) ja_nil) ⟨M5.ks L, rfl⟩) ?_)
        exact ⟨row, one, other, rfl, .un _ (hb.un hge hlen hq) (by rw [M5.ks, List.length_map]; omega)⟩
      refine jss_nil ?_
      rw [look_in] at c
      have hq : ((one.length : Int), (other.length : Int)) ∈ M5.ks L := by simpa using c
      refine jss_cons (js_setOI 7 joi_nil ?_ sc_mixed.nd)
      refine jss_cons (js_while (fun ρ => ∃ (i j : Nat) (pl : List Int) (x9 : Option Lf.E), M5.Way row one other i j pl.reverse ∧ ((i : Int), (j : Int)) ∈ M5.ks L ∧ pl.length + i + j ≤ 300 ∧
          ρ = [some (.v .imm (.il row)), some (.v .imm (.il one)), some (.v .imm (.il other)), some (.dT .frs (L.map kv)), some (.own .frs ((M5.ks L).map tp)), some (.v .frs (.int at_)), some (.v .frs (.tup [.int i, .int j])), some (.ownI pl), x8, x9, x10, x11]) muPair ⟨one.length, other.length, [], none, M5.Way.start hlen, hq, by show 0 + _ + _ ≤ _; omega, rfl⟩ (fun ρ' hv => ?_))
      obtain ⟨i, j, pl, x9, hw, hin, hpl, rfl⟩ := hv
      refine ⟨_, (jt_c (jc_neG hu64 (je_v 6 rfl) (je_tup (l := .frs) (ja_cons je_int (ja_cons je_int ja_nil))))), fun c => ?_, fun c => ?_⟩
      · rw [eqD_pair] at c
        have hne : ((i : Int), (j : Int)) ≠ (0, 0) := fun z => by rw [decide_eq_true z] at c; cases c
        obtain ⟨e, heL, he1, hlook⟩ := look_at hin
        have hm : muPair [some (.v .imm (.il row)), some (.v .imm (.il one)), some (.v .imm (.il other)), some (.dT .frs (L.map kv)), some (.own .frs ((M5.ks L).map tp)), some (.v .frs (.int at_)), some (.v .frs (.tup [.int i, .int j])), some (.ownI pl), x8, x9, x10, x11] = i + j := by
          show ((i : Nat) : Int).toNat + ((j : Nat) : Int).toNat = _
          rw [Int.toNat_natCast, Int.toNat_natCast]
        rw [hm]
        rcases hb.pr e heL with z | ⟨hstp, hin2⟩
        · rw [he1] at z
          exact absurd z hne
        obtain ⟨⟨e1, e2⟩, ⟨a, b⟩⟩ := e
        have he1 : (e1, e2) = ((i : Int), (j : Int)) := he1
        obtain ⟨rfl, rfl⟩ := Prod.mk.inj he1
        obtain ⟨i', j', hab, hi', hj'⟩ := M5.inb_iff.mp (hb.ib _ hin2)
        obtain ⟨rfl, rfl⟩ := Prod.mk.inj hab
        refine jss_cons (js_set 9 (je_dixT 3 (ks := [(i : Int), (j : Int)]) hu1 (je_v 6 rfl) rfl (.inl rfl) hlook) ?_ (by decide) sc_mixed.nd)
        rcases M5.mem_stp.mp hstp with ⟨h1, h2, h3⟩ | ⟨h1, h2, h3⟩
        · obtain ⟨h3, h4⟩ := Prod.mk.inj h3
          have h3 : (i : Int) = (i' : Int) + 1 := h3
          have h4 : (j : Int) = (j' : Int) := h4
          have ei : i = i' + 1 := by omega
          have ej : j = j' := by omega
          subst ei ej
          refine jss_cons (js_if (jt_c (jc_lt (je_ixT (je_v 9 rfl) je_int (inR_at rfl (by simp)) (gD_nth (n := 0) (d := .int (i' : Int)) rfl)) (je_ixT (je_v 6 rfl) je_int (inR_at rfl (by simp)) (gD_nth (n := 0) (d := .int ((i' + 1 : Nat) : Int)) rfl)))) (fun c => ?_) (fun c => ?_))
          · refine jss_one (js_appI 7 rfl (je_add (je_ixT (je_v 9 rfl) je_int (inR_at rfl (by simp)) (gD_nth (n := 0) (d := .int (i' : Int)) rfl)) (je_ixT (je_v 9 rfl) je_int (inR_at rfl (by simp)) (gD_nth (n := 1) (d := .int (j : Int)) rfl))) ?_ (by omega))
            refine jss_one (js_set 6 (je_v 9 rfl) ?_ (by decide) sc_mixed.nd)
            refine ⟨⟨i', j, pl ++ [(i' : Int) + (j : Int)], _, ?_, hin2, by rw [List.length_append, List.length_singleton]; omega, rfl⟩, ?_⟩
            · rw [List.reverse_append]
              have := hw.fst hlen h2
              rw [Int.natCast_add] at this
              exact this
            · show ((i' : Nat) : Int).toNat + ((j : Nat) : Int).toNat < _
              omega
          · have c' := of_decide_eq_false c
            omega
        · obtain ⟨h3, h4⟩ := Prod.mk.inj h3
          have h3 : (i : Int) = (i' : Int) := h3
          have h4 : (j : Int) = (j' : Int) + 1 := h4
          have ei : i = i' := by omega
          have ej : j = j' + 1 := by omega
          subst ei ej
          refine jss_cons (js_if (jt_c (jc_lt (je_ixT (je_v 9 rfl) je_int (inR_at rfl (by simp)) (gD_nth (n := 0) (d := .int (i : Int)) rfl)) (je_ixT (je_v 6 rfl) je_int (inR_at rfl (by simp)) (gD_nth (n := 0) (d := .int (i : Int)) rfl)))) (fun c => ?_) (fun c => ?_))
          · have c' := of_decide_eq_true c
            omega
          refine jss_nil ?_
          refine jss_one (js_set 6 (je_v 9 rfl) ?_ (by decide) sc_mixed.nd)
          refine ⟨⟨i, j', pl, _, hw.snd hlen h2, hin2, by omega, rfl⟩, ?_⟩
          show ((i : Nat) : Int).toNat + ((j' : Nat) : Int).toNat < _
          omega
      · rw [eqD_pair] at c
        have he : ((i : Int), (j : Int)) = (0, 0) := by cases z : decide (((i : Int), (j : Int)) = (0, 0)) with | true => exact of_decide_eq_true z | false => rw [z] at c; cases c
        obtain ⟨h1, h2⟩ := Prod.mk.inj he
        have ei : i = 0 := by omega
        have ej : j = 0 := by omega
        subst ei ej
        refine jss_one (js_retU (ju_make (d := dLeft Mx pl.reverse) M_Mixed hr (ja_cons (JOI.je (joi_rev (je_oI 7 rfl))) ja_nil) ⟨_, rfl⟩) ?_)
        exact ⟨row, one, other, rfl, .mx _ hw.all⟩

end
end Kc

set_option Elab.async false
set_option linter.all false
set_option maxRecDepth 100000
set_option maxHeartbeats 2000000
set_option autoImplicit false
namespace Kc
open PySem L2 Lf M1 M2
section
variable {P : Program} {w : World} {K : PySem.W.Frag} {mg : Str → Option Value} {base : Heap}
theorem sc_law_is_mixed : FnScope ["_law_row_here", "_law_one", "_law_other", "_law_places", "_law_place", "_law_sign"] ["_law_row_here", "_law_one", "_law_other", "_law_places"] (defScope s_law_is_mixed) := ⟨rfl, rfl, rfl, by decide +kernel, rfl, by decide +kernel, by decide +kernel⟩
def p_law_is_mixed (ds : List D) : Prop := ∃ row one other ps : List Int, ds = [.il row, .il one, .il other, .il ps] ∧ row.length ≤ 1000
def g_law_is_mixed (ds : List D) : D := match ds with | [.il row, .il one, .il other, .il ps] => .bl (M5.mxF row one other ps) | _ => .non
def enT (ps : List Int) (d : D) : Bool := match d with | .tup [.int i, _] => !decide (i ∈ ps) | _ => false
def enF (d : D) : Int := match d with | .tup [_, .int s] => s | _ => 0
def enE (ρ : PEnv) (d : D) : PEnv := match d with | .tup [d1, d2] => (ρ.set 4 (some (.v .frs d1))).set 5 (some (.v .frs d2)) | _ => ρ
theorem en_mem {ns : List Int} {d : D} (h : d ∈ enumI ns) : ∃ i j, d = .tup [.int i, .int j] := by
  unfold enumI at h
  obtain ⟨p, _, rfl⟩ := List.mem_map.mp h
  exact ⟨_, _, rfl⟩
theorem en_rest (row ps : List Int) : ((enumI row).filter (enT ps)).map enF = M5.restF row ps := by
  unfold enumI M5.restF rngI
  rw [List.filter_map, List.filter_map, List.map_map, List.map_map]
  have e : (enT ps ∘ fun (i : Nat) => D.tup [.int (i : Int), .int (row.getD i 0)]) = ((fun k => !decide (k ∈ ps)) ∘ fun (i : Nat) => (0 : Int) + (i : Int)) := funext fun i => by
    show (!decide ((i : Int) ∈ ps)) = (!decide ((0 : Int) + (i : Int) ∈ ps))
    rw [Int.zero_add]
  rw [e]
  refine List.map_congr_left fun i _ => ?_
  show row.getD i 0 = gI row ((0 : Int) + (i : Int))
  rw [Int.zero_add, gI_nat]
theorem ok_law_is_mixed {f : Addr} {fd : FuncData} (F : Fun K "_law_is_mixed" "_law_is_mixed" s_law_is_mixed f fd) (T : Blt mg) (C_law_stands : Callee P w K mg base 1 "_law_stands" p_law_stands g_law_stands) : FnOk P w K mg base CX0 2 f fd ["_law_row_here", "_law_one", "_law_other", "_law_places"] (spF K p_law_is_mixed g_law_is_mixed) := by
  refine fn_ok (k := 1) F sc_law_is_mixed (by rintro ds ⟨i, j, k, l, rfl, _⟩; rfl) fun cdv A outer s H E hr ds hp => ?_
  obtain ⟨row, one, other, ps, rfl, hz⟩ := hp
  have hu : (A.deeper (PyProof.Rows.envOfC "_law_is_mixed" (defScope s_law_is_mixed) s.heap.objs.size f cdv)).units + 64 < cLine := hr.units
  refine jss_cons (js_if (jt_not (jt_v (v := stdF row ps one) (je_call C_law_stands hr (ja_cons (je_v 0 rfl) (ja_cons (je_v 3 rfl) (ja_cons (je_v 1 rfl) ja_nil))) ⟨_, _, _, rfl⟩))) (fun c => ?_) (fun c => ?_))
  · refine jss_one (js_ret je_bl ?_)
    show D.bl false = .bl (M5.mxF row one other ps)
    unfold M5.mxF
    cases h : stdF row ps one with
    | true => rw [h] at c; cases c
    | false => rfl
  refine jss_nil ?_
  refine jss_one (js_ret (je_c (jc_eqL hu (JOI.je (joi_of (jo_lc (own := [("_law_place", 4), ("_law_sign", 5)]) (Tst := enT ps) (f := fun d => .int (enF d)) (ρd := fun d => enE (wipeL [some (.v .imm (.il row)), some (.v .imm (.il one)), some (.v .imm (.il other)), some (.v .imm (.il ps)), none, none] [4, 5]) d) (ji_enum T.enumerate (je_v 0 rfl))
    (fun d hd _ _ _ _ _ => by obtain ⟨i, j, rfl⟩ := en_mem hd; exact jgb_pair 4 5 sc_law_is_mixed.nd)
    (fun d hd _ _ _ _ _ => by obtain ⟨i, j, rfl⟩ := en_mem hd; exact (jts_one (jt_c (jc_notin (je_v 4 rfl) (je_v 3 rfl)))))
    (fun d hd _ _ _ _ _ _ => by obtain ⟨i, j, rfl⟩ := en_mem hd; exact (je_v 5 rfl)) sc_law_is_mixed.nd (blkOk_by (N := ["_law_row_here", "_law_one", "_law_other", "_law_places", "_law_place", "_law_sign"]) (sc := defScope s_law_is_mixed) (by decide +kernel)) (by unfold enumI; rw [List.length_map, List.length_range]; omega)))) (je_v 2 rfl))) ?_)
  show D.bl (decide (((enumI row).filter (enT ps)).map enF = other)) = .bl (M5.mxF row one other ps)
  rw [en_rest]
  unfold M5.mxF
  have : stdF row ps one = true := by simpa using c
  rw [this, Bool.true_and]
theorem sc_law_unmixed : FnScope ["_law_row_here", "_law_one", "_law_other", "_law_pairs", "_law_whole", "_law_held", "_law_pair", "_law_i", "_law_j"] ["_law_row_here", "_law_one", "_law_other", "_law_pairs"] (defScope s_law_unmixed) := ⟨rfl, rfl, rfl, by decide +kernel, rfl, by decide +kernel, by decide +kernel⟩
def p_law_unmixed (ds : List D) : Prop := ∃ (row one other : List Int) (ws : List M5.Pr), ds = [.il row, .il one, .il other, prs ws] ∧ ws.length ≤ 20000
noncomputable def g_law_unmixed (ds : List D) : D := match ds with | [.il row, .il one, .il other, .lst t] => .bl (dec (∃ ws : List M5.Pr, t = ws.map tp ∧ M5.unF row one other ws = true)) | _ => .non
theorem g_lun (ws : List M5.Pr) (row one other : List Int) : g_law_unmixed [.il row, .il one, .il other, prs ws] = .bl (M5.unF row one other ws) := g_un 0 ws row one other
theorem stp_all {row one other : List Int} {i j : Int} {f : M5.Pr → Bool} : (M5.stp row one other i j).all f = (!(decide (i < one.length) && (decide (gI one i = gI row (i + j)) && !f (i + 1, j))) && !(decide (j < other.length) && (decide (gI other j = gI row (i + j)) && !f (i, j + 1)))) := by
  unfold M5.stp
  rw [List.all_append]
  congr 1
  · by_cases h1 : i < one.length <;> by_cases h2 : gI one i = gI row (i + j) <;> simp [h1, h2]
  · by_cases h1 : j < other.length <;> by_cases h2 : gI other j = gI row (i + j) <;> simp [h1, h2]
theorem ok_law_unmixed {f : Addr} {fd : FuncData} (F : Fun K "_law_unmixed" "_law_unmixed" s_law_unmixed f fd) (T : Blt mg) : FnOk P w K mg base CX0 1 f fd ["_law_row_here", "_law_one", "_law_other", "_law_pairs"] (spF K p_law_unmixed g_law_unmixed) := by
  refine fn_ok (k := 0) F sc_law_unmixed (by rintro ds ⟨i, j, k, l, rfl, _⟩; rfl) fun cdv A outer s H E hr ds hp => ?_
  obtain ⟨row, one, other, ws, rfl, hz⟩ := hp
  have hu : (A.deeper (PyProof.Rows.envOfC "_law_unmixed" (defScope s_law_unmixed) s.heap.objs.size f cdv)).units + 65 < cLine := by have := hr.un; omega
  have hu1 : (A.deeper (PyProof.Rows.envOfC "_law_unmixed" (defScope s_law_unmixed) s.heap.objs.size f cdv)).units + 1 < cLine := by omega
  rw [g_lun]
  refine jss_cons (js_set 4 (je_tup (l := .frs) (ja_cons (je_len T.len (je_v 1 rfl)) (ja_cons (je_len T.len (je_v 2 rfl)) ja_nil))) ?_ (by decide) sc_law_unmixed.nd)
  refine jss_cons (js_if (JW.pt (jw_or (jt_c (jc_ne (je_len T.len (je_v 0 rfl)) (je_add (je_len T.len (je_v 1 rfl)) (je_len T.len (je_v 2 rfl))))) (fun _ => (jw_or (jt_c (jc_notinP (ws := ws) hu (je_tup (l := .frs) (ja_cons je_int (ja_cons je_int ja_nil))) (je_v 3 rfl))) (fun _ => (jw_or1 (jt_c (jc_inP (ws := ws) hu (je_v 4 rfl) (je_v 3 rfl))))))))) (fun c => ?_) (fun c => ?_))
  · exact jss_one (js_ret je_bl (by rw [un_head c]))
  obtain ⟨hlen, hun⟩ := un_rest c
  refine jss_nil ?_
  refine jss_cons (js_setDT 5 (l := .frs) ?_ (by decide) sc_law_unmixed.nd)
  refine jss_cons (js_for (fun rest ρ => ∃ (done rs U : List M5.Pr) (x : Option Lf.E), ws = done ++ rs ∧ rest = rs.map tp ∧ (∀ p, p ∈ U ↔ p ∈ done) ∧ U.length ≤ done.length ∧
      ρ = [some (.v .imm (.il row)), some (.v .imm (.il one)), some (.v .imm (.il other)), some (.v .imm (prs ws)), some (.v .frs (tp ((one.length : Int), (other.length : Int)))), some (.dT .frs (U.map ku)), x, none, none]) (ji_lst (je_v 3 rfl)) ⟨[], ws, [], none, rfl, rfl, fun _ => Iff.rfl, Nat.le_refl _, rfl⟩ (fun d rest ρ' hv => ?_) (fun ρ' hv => ?_))
  · obtain ⟨done, rs, U, x, hws, hrest, hU, hUl, rfl⟩ := hv
    cases rs with
    | nil => cases hrest
    | cons p rs =>
      obtain ⟨rfl, rfl⟩ := List.cons.inj hrest
      refine ⟨_, jg_name 6 sc_law_unmixed.nd, ?_⟩
      refine jss_one (js_putT 5 (ks := [p.1, p.2]) hu1 rfl je_bl (je_v 6 rfl) ?_ (by have := congrArg List.length hws; rw [List.length_append, List.length_cons] at this; rw [List.length_map]; omega))
      refine ⟨done ++ [p], rs, ins U p, some (.v .imm (tp p)), by rw [hws, List.append_assoc]; rfl, rfl, fun q => ?_, ?_, ?_⟩
      · rw [mem_ins, hU, List.mem_append, List.mem_singleton]
      · have := len_ins U p
        rw [List.length_append, List.length_singleton]
        omega
      · rw [put_ku]
        rfl
  obtain ⟨done, rs, U, x, hws, hrest, hU, hUl, rfl⟩ := hv
  have : rs = [] := by cases rs with | nil => rfl | cons _ _ => cases hrest
  subst this
  rw [List.append_nil] at hws
  subst hws
  have hUw : ∀ p, decide (p ∈ U) = decide (p ∈ ws) := fun p => decide_eq_decide.mpr (hU p)
  refine jss_cons (js_for (fun rest ρ => ∃ (done rs : List M5.Pr) (y z : Option Lf.E), ws = done ++ rs ∧ rest = rs.map tp ∧ done.all (M5.inb one other) = true ∧ (done.all fun p => (M5.stp row one other p.1 p.2).all fun q => decide (q ∈ ws)) = true ∧
      ρ = [some (.v .imm (.il row)), some (.v .imm (.il one)), some (.v .imm (.il other)), some (.v .imm (prs ws)), some (.v .frs (tp ((one.length : Int), (other.length : Int)))), some (.dT .frs (U.map ku)), x, y, z]) (ji_lst (je_v 3 rfl)) ⟨[], ws, none, none, rfl, rfl, rfl, rfl, rfl⟩ (fun d rest ρ' hv => ?_) (fun ρ' hv => ?_))
  · obtain ⟨done, rs, y, z, hws, hrest, hib, hcl, rfl⟩ := hv
    cases rs with
    | nil => cases hrest
    | cons p rs =>
      obtain ⟨rfl, rfl⟩ := List.cons.inj hrest
      have hp : p ∈ ws := by rw [hws]; exact List.mem_append_right _ (List.mem_cons_self ..)
      refine ⟨_, jg_pair 7 8 sc_law_unmixed.nd, ?_⟩
      refine jss_cons (js_if (JW.pt (jw_or (jt_not (jt_lele je_int (je_v 7 rfl) (je_len T.len (je_v 1 rfl)))) (fun _ => (jw_or1 (jt_not (jt_lele je_int (je_v 8 rfl) (je_len T.len (je_v 2 rfl)))))))) (fun c => ?_) (fun c => ?_))
      · rw [inb_dec] at c
        refine jss_one (js_ret je_bl ?_)
        have c' : M5.inb one other p = false := by simpa using c
        have : ws.all (M5.inb one other) = false := by rw [hws, List.all_append, List.all_cons, c']; simp
        rw [hun, this]
        rfl
      refine jss_nil ?_
      rw [inb_dec] at c
      have c' : M5.inb one other p = true := by simpa using c
      obtain ⟨i, j, hij, hi, hj⟩ := M5.inb_iff.mp c'
      subst hij
      have hstp := stp_all (row := row) (one := one) (other := other) (i := (i : Int)) (j := (j : Int)) (f := fun q => decide (q ∈ ws))
      have bad : ((M5.stp row one other (i : Int) (j : Int)).all fun q => decide (q ∈ ws)) = false → M5.unF row one other ws = false := fun h => by
        have : (ws.all fun p => (M5.stp row one other p.1 p.2).all fun q => decide (q ∈ ws)) = false := by
          cases e : (ws.all fun p => (M5.stp row one other p.1 p.2).all fun q => decide (q ∈ ws)) with
          | false => rfl
          | true => rw [List.all_eq_true.mp e _ hp] at h; cases h
        rw [hun, this, Bool.and_false]
      refine jss_cons (js_if (JW.pt (jw_and (jt_c (jc_lt (je_v 7 rfl) (je_len T.len (je_v 1 rfl)))) (fun c => (jw_and (jt_c (jc_eq (je_ixI (je_v 1 rfl) (je_v 7 rfl) (inR_at rfl (by have := of_decide_eq_true c; omega))) (je_ixI (je_v 0 rfl) (je_add (je_v 7 rfl) (je_v 8 rfl)) (inR_at (Int.natCast_add i j).symm (by have := of_decide_eq_true c; omega))))) (fun _ => (jw_and1 (jt_c (jc_notinT (ks := [(i : Int) + 1, (j : Int)]) 5 hu1 (je_tup (l := .frs) (ja_cons (je_add (je_v 7 rfl) je_int) (ja_cons (JE.sc (l' := .frs) (je_v 8 rfl) rfl) ja_nil))) rfl (.inl rfl))))))))) (fun c => ?_) (fun c => ?_))
      · rw [look_ku, hUw] at c
        refine jss_one (js_ret je_bl ?_)
        rw [bad (by rw [hstp]; rw [show (decide ((i : Int) < (one.length : Int)) && (decide (gI one (i : Int) = gI row ((i : Int) + (j : Int))) && !decide (((i : Int) + 1, (j : Int)) ∈ ws))) = true from c]; rfl)]
      rw [look_ku, hUw] at c
      refine jss_nil ?_
      refine jss_one (js_if (JW.pt (jw_and (jt_c (jc_lt (je_v 8 rfl) (je_len T.len (je_v 2 rfl)))) (fun c => (jw_and (jt_c (jc_eq (je_ixI (je_v 2 rfl) (je_v 8 rfl) (inR_at rfl (by have := of_decide_eq_true c; omega))) (je_ixI (je_v 0 rfl) (je_add (je_v 7 rfl) (je_v 8 rfl)) (inR_at (Int.natCast_add i j).symm (by have := of_decide_eq_true c; omega))))) (fun _ => (jw_and1 (jt_c (jc_notinT (ks := [(i : Int), (j : Int) + 1]) 5 hu1 (je_tup (l := .frs) (ja_cons (JE.sc (l' := .frs) (je_v 7 rfl) rfl) (ja_cons (je_add (je_v 8 rfl) je_int) ja_nil))) rfl (.inl rfl))))))))) (fun c2 => ?_) (fun c2 => ?_))
      · rw [look_ku, hUw] at c2
        refine jss_one (js_ret je_bl ?_)
        rw [bad (by rw [hstp]; rw [show (decide ((j : Int) < (other.length : Int)) && (decide (gI other (j : Int) = gI row ((i : Int) + (j : Int))) && !decide (((i : Int), (j : Int) + 1) ∈ ws))) = true from c2]; rw [Bool.not_true, Bool.and_false])]
      rw [look_ku, hUw] at c2
      refine jss_nil ⟨done ++ [((i : Int), (j : Int))], rs, some (.v .imm (.int i)), some (.v .imm (.int j)), by rw [hws, List.append_assoc]; rfl, rfl, by rw [List.all_append, hib]; simpa using c', ?_, rfl⟩
      rw [List.all_append, hcl, List.all_cons]
      show (true && (((M5.stp row one other (i : Int) (j : Int)).all fun q => decide (q ∈ ws)) && true)) = true
      rw [hstp]
      rw [show (decide ((i : Int) < (one.length : Int)) && (decide (gI one (i : Int) = gI row ((i : Int) + (j : Int))) && !decide (((i : Int) + 1, (j : Int)) ∈ ws))) = false from c, show (decide ((j : Int) < (other.length : Int)) && (decide (gI other (j : Int) = gI row ((i : Int) + (j : Int))) && !decide (((i : Int), (j : Int) + 1) ∈ ws))) = false from c2]
      rfl
  · obtain ⟨done, rs, y, z, hws, hrest, hib, hcl, rfl⟩ := hv
    have : rs = [] := by cases rs with | nil => rfl | cons _ _ => cases hrest
    subst this
    rw [List.append_nil] at hws
    subst hws
    refine jss_one (js_ret je_bl ?_)
    rw [hun, hib, hcl]
    rfl


end
end Kc

set_option Elab.async false
set_option linter.all false
set_option maxRecDepth 100000
set_option maxHeartbeats 2000000
set_option autoImplicit false
namespace Kc
open PySem L2 Lf M1 M2
section
variable {P : Program} {w : World} {K : PySem.W.Frag} {mg : Str → Option Value} {base : Heap}
open M3 M4
variable {An Bo Le Lo Mi Mx Sh Un : Addr}
theorem sc_law_says : FnScope ["_law_said", "_law_due"] ["_law_said", "_law_due"] (defScope s_law_says) := ⟨rfl, rfl, rfl, by decide +kernel, rfl, by decide +kernel, by decide +kernel⟩
def p_law_says (ds : List D) : Prop := ∃ a b : Bool, ds = [.bl a, .bl b]
def g_law_says (ds : List D) : D := match ds with | [.bl a, .bl b] => .bl (a == b) | _ => .non
theorem says_same (a : Bool) : g_law_says [.bl a, .bl a] = .bl true := by
  show D.bl (a == a) = _
  rw [beq_self_eq_true]
theorem ok_law_says {f : Addr} {fd : FuncData} (F : Fun K "_law_says" "_law_says" s_law_says f fd) (T : Blt mg) : FnOk P w K mg base CX0 1 f fd ["_law_said", "_law_due"] (spF K p_law_says g_law_says) := by
  refine fn_ok (k := 0) F sc_law_says (by rintro ds ⟨i, j, rfl⟩; rfl) fun cdv A outer s H E hr ds hp => ?_
  obtain ⟨a, b, rfl⟩ := hp
  exact jss_one (js_ret (JE.eq (je_and (v := true) (je_isT (b := true) T.isinstance T.bool boot_bool (je_v 0 rfl) (kit_ty (by decide +kernel)) trivial) (fun _ => (je_one (je_c (jc_eqB (p := a) (q := b) (je_v 0 rfl) (je_v 1 rfl)))))) rfl) rfl)
def atB (fs : List Int) (c : Int) : Int := c / 11 % (if (fs.length : Int) > 1 then (fs.length : Int) else 1)
theorem atB_nn (fs : List Int) (c : Int) : 0 ≤ atB fs c := by
  unfold atB
  apply Int.emod_nonneg
  split <;> omega
theorem atB_lt {fs : List Int} (c : Int) (h : fs ≠ []) : atB fs c < (fs.length : Int) := by
  have h0 : 0 < fs.length := List.length_pos_iff.mpr h
  unfold atB
  split
  · exact Int.emod_lt_of_pos _ (by omega)
  · have := Int.emod_lt_of_pos (c / 11) (show (0 : Int) < 1 by decide)
    omega
def b1 (fs : List Int) (c a : Int) : List Int := if c % 11 = 0 then cutL fs none (some a) ++ cutL fs (some (a + 1)) none else fs
def b2 (fs : List Int) (c a : Int) : List Int := if c % 11 = 1 then cutL fs none (some a) ++ [c / 121 % 9 - 1] ++ cutL fs (some a) none else fs
def b3 (fs : List Int) (c a : Int) : List Int := if c % 11 = 2 ∧ fs ≠ [] then setI fs a (gI fs a + c / 121 % 3 - 1) else fs
def b4 (fs : List Int) (c a : Int) : List Int := if c % 11 = 3 ∧ fs ≠ [] then setI (setI fs a (gI fs 0)) 0 (gI fs a) else fs
def bent1 (fs : List Int) (c : Int) : List Int := b4 (b3 (b2 (b1 fs c (atB fs c)) c (atB fs c)) c (atB fs c)) c (atB fs c)
def bentF : List Int → List Int → List Int
  | fs, [] => fs
  | fs, c :: cs => bentF (bent1 fs c) cs
theorem b1_len (fs : List Int) (c : Int) {a : Int} (h : 0 ≤ a) : (b1 fs c a).length ≤ fs.length := by
  unfold b1
  split
  · rw [cutL_to fs h, cutL_from fs (by omega), List.length_append, List.length_take, List.length_drop]
    omega
  · exact Nat.le_refl _
theorem b2_len (fs : List Int) (c : Int) {a : Int} (h : 0 ≤ a) : (b2 fs c a).length ≤ fs.length + 1 := by
  unfold b2
  split
  · rw [cutL_to fs h, cutL_from fs h, List.length_append, List.length_append, List.length_take, List.length_drop, List.length_singleton]
    omega
  · omega
theorem b3_len (fs : List Int) (c a : Int) : (b3 fs c a).length = fs.length := by
  unfold b3
  split
  · exact setI_len _ _ _
  · rfl
theorem b4_len (fs : List Int) (c a : Int) : (b4 fs c a).length = fs.length := by
  unfold b4
  split
  · rw [setI_len, setI_len]
  · rfl
theorem bent1_len (fs : List Int) (c : Int) : (bent1 fs c).length ≤ fs.length + 1 := by
  have h := atB_nn fs c
  unfold bent1
  rw [b4_len, b3_len]
  have h1 := b1_len fs c h
  have h2 := b2_len (b1 fs c (atB fs c)) c h
  omega
theorem bentF_len : ∀ (cs fs : List Int), (bentF fs cs).length ≤ fs.length + cs.length
  | [], fs => by rw [bentF]; simp
  | c :: cs, fs => by
    rw [bentF]
    have h1 := bent1_len fs c
    have h2 := bentF_len cs (bent1 fs c)
    rw [List.length_cons]
    omega
theorem sc_law_bent : FnScope ["_law_some", "_law_script", "_law_found", "_law_cell", "_law_at"] ["_law_some", "_law_script"] (defScope s_law_bent) := ⟨rfl, rfl, rfl, by decide +kernel, rfl, by decide +kernel, by decide +kernel⟩
def p_law_bent (ds : List D) : Prop := ∃ (fs : List Int) (d : D) (cs : List Int), ds = [.il fs, d] ∧ (d = .scr cs ∨ d = .il cs) ∧ fs.length ≤ 2000 ∧ cs.length ≤ 1000
def g_law_bent (ds : List D) : D := match ds with | [.il fs, .scr cs] => .il (bentF fs cs) | [.il fs, .il cs] => .il (bentF fs cs) | _ => .non
theorem ok_law_bent {f : Addr} {fd : FuncData} (F : Fun K "_law_bent" "_law_bent" s_law_bent f fd) (T : Blt mg) : FnOk P w K mg base CX0 1 f fd ["_law_some", "_law_script"] (spU K p_law_bent g_law_bent) := by
  refine fn_okU (k := 0) F sc_law_bent (by rintro ds ⟨i, j, k, rfl, _⟩; rfl) fun cdv A outer s H E hr ds hp => ?_
  obtain ⟨f0, d, cs, rfl, hd, hz, hz2⟩ := hp
  have hu : (A.deeper (PyProof.Rows.envOfC "_law_bent" (defScope s_law_bent) s.heap.objs.size f cdv)).units + 64 < cLine := hr.units
  have hg : g_law_bent [.il f0, d] = .il (bentF f0 cs) := by rcases hd with rfl | rfl <;> rfl
  rw [hg]
  refine jss_cons (js_setOI 2 (joi_list T.list (je_v 0 rfl)) ?_ sc_law_bent.nd)
  refine jss_cons (js_forI (fun rest ρ => ∃ (fs : List Int) (x3 x4 : Option Lf.E), bentF fs rest = bentF f0 cs ∧ fs.length + rest.length ≤ 3000 ∧ ρ = [some (.v .imm (.il f0)), some (.v .imm d), some (.ownI fs), x3, x4]) (ji_cells (je_v 1 rfl) hd) ⟨f0, none, none, rfl, by omega, rfl⟩ (fun n rest ρ' hv => ?_) (fun ρ' hv => ?_))
  · obtain ⟨fs, x3, x4, hb, hl, rfl⟩ := hv
    rw [List.length_cons] at hl
    refine ⟨_, jg_name 3 sc_law_bent.nd, ?_⟩
    have ha0 := atB_nn fs n
    refine jss_cons (js_set 4 (d := .int (atB fs n)) (je_mod (je_div (je_v 3 rfl) je_int ⟨by decide, by decide⟩) (je_max T.max je_int (je_len T.len (je_oI 2 rfl))) (by split <;> omega)) ?_ (by decide) sc_law_bent.nd)
    have l1 := b1_len fs n ha0
    have hal1 : n % 11 = 0 ∨ b1 fs n (atB fs n) = fs := by
      by_cases h : n % 11 = 0
      · exact .inl h
      · exact .inr (by unfold b1; rw [if_neg h])
    have hal : fs ≠ [] → atB fs n < (fs.length : Int) := atB_lt n
    refine jss_cons (js_cut (fun ρ' => ρ' = [some (.v .imm (.il f0)), some (.v .imm d), some (.ownI (b1 fs n (atB fs n))), some (.v .frs (.int n)), some (.v .frs (.int (atB fs n)))]) (js_if (jt_c (jc_eq (je_mod (je_v 3 rfl) je_int (by decide)) je_int)) (fun c => ?_) (fun c => ?_)) (fun ρ' h => ?_))
    · have c := of_decide_eq_true c
      refine jss_one (js_setOI 2 (joi_cat (JOI.je (joi_cut (je_oI 2 rfl) jp_none (jp_some (je_v 4 rfl)))) (JOI.je (joi_cut (je_oI 2 rfl) (jp_some (je_add (je_v 4 rfl) je_int)) jp_none)) ?_) ?_ sc_law_bent.nd)
      · have := cutL_length fs none (some (atB fs n))
        have := cutL_length fs (some (atB fs n + 1)) none
        omega
      · unfold b1
        rw [if_pos c]
        rfl
    · have c := of_decide_eq_false c
      refine jss_nil ?_
      unfold b1
      rw [if_neg c]
      rfl
    subst h
    have hb1 : bent1 fs n = b4 (b3 (b2 (b1 fs n (atB fs n)) n (atB fs n)) n (atB fs n)) n (atB fs n) := rfl
    rw [bentF, hb1] at hb
    generalize hf1 : b1 fs n (atB fs n) = f1 at l1 hal1 hb
    have l2 := b2_len f1 n ha0
    have hal2 : n % 11 = 0 ∨ n % 11 = 1 ∨ b2 f1 n (atB fs n) = fs := by
      rcases hal1 with h | h
      · exact .inl h
      · by_cases h2 : n % 11 = 1
        · exact .inr (.inl h2)
        · exact .inr (.inr (by unfold b2; rw [if_neg h2, h]))
    refine jss_cons (js_cut (fun ρ' => ρ' = [some (.v .imm (.il f0)), some (.v .imm d), some (.ownI (b2 f1 n (atB fs n))), some (.v .frs (.int n)), some (.v .frs (.int (atB fs n)))]) (js_if (jt_c (jc_eq (je_mod (je_v 3 rfl) je_int (by decide)) je_int)) (fun c => ?_) (fun c => ?_)) (fun ρ' h => ?_))
    · have c := of_decide_eq_true c
      have q1 := cutL_length f1 none (some (atB fs n))
      have q2 := cutL_length f1 (some (atB fs n)) none
      refine jss_one (js_setOI 2 (joi_cat (JOI.je (joi_cat (JOI.je (joi_cut (je_oI 2 rfl) jp_none (jp_some (je_v 4 rfl)))) (JOI.je (joi_lst (l := .frs) (ns := [n / 121 % 9 - 1]) (ja_cons (je_sub (je_mod (je_div (je_v 3 rfl) je_int ⟨by decide, by decide⟩) je_int (by decide)) je_int) ja_nil))) (by rw [List.length_singleton]; omega))) (JOI.je (joi_cut (je_oI 2 rfl) (jp_some (je_v 4 rfl)) jp_none)) (by rw [List.length_append, List.length_singleton]; omega)) ?_ sc_law_bent.nd)
      unfold b2
      rw [if_pos c]
      rfl
    · have c := of_decide_eq_false c
      refine jss_nil ?_
      unfold b2
      rw [if_neg c]
    subst h
    generalize hf2 : b2 f1 n (atB fs n) = f2 at l2 hal2 hb
    have l3 := b3_len f2 n (atB fs n)
    have hal3 : n % 11 = 0 ∨ n % 11 = 1 ∨ n % 11 = 2 ∨ b3 f2 n (atB fs n) = fs := by
      rcases hal2 with h | h | h
      · exact .inl h
      · exact .inr (.inl h)
      · by_cases h2 : n % 11 = 2
        · exact .inr (.inr (.inl h2))
        · exact .inr (.inr (.inr (by unfold b3; rw [if_neg (fun z => h2 z.1), h])))
    refine jss_cons (js_cut (fun ρ' => ρ' = [some (.v .imm (.il f0)), some (.v .imm d), some (.ownI (b3 f2 n (atB fs n))), some (.v .frs (.int n)), some (.v .frs (.int (atB fs n)))]) (js_if (JW.pt (jw_and (jt_c (jc_eq (je_mod (je_v 3 rfl) je_int (by decide)) je_int)) (fun _ => (jw_and1 (jt_c (jc_neL hu (je_oI 2 rfl) (JOI.je joi_nil))))))) (fun c => ?_) (fun c => ?_)) (fun ρ' h => ?_))
    · rw [Bool.and_eq_true, decide_eq_true_eq, Bool.not_eq_true', decide_eq_false_iff_not] at c
      have e2 : f2 = fs := by rcases hal2 with h | h | h <;> first | exact h | (exfalso; have := c.1; omega)
      subst e2
      have hlt := hal c.2
      have hin : inR f2.length (atB f2 n) := ⟨by omega, hlt⟩
      refine jss_one (js_setI 2 rfl (je_sub (je_add (je_ixI (je_oI 2 rfl) (je_v 4 rfl) hin) (je_mod (je_div (je_v 3 rfl) je_int ⟨by decide, by decide⟩) je_int (by decide))) je_int) (je_v 4 rfl) hin ?_)
      unfold b3
      rw [if_pos c]
      rfl
    · have c' : ¬ (n % 11 = 2 ∧ f2 ≠ []) := fun z => by
        rw [decide_eq_true z.1, decide_eq_false z.2] at c
        cases c
      refine jss_nil ?_
      unfold b3
      rw [if_neg c']
    subst h
    generalize hf3 : b3 f2 n (atB fs n) = f3 at l3 hal3 hb
    have l4 := b4_len f3 n (atB fs n)
    refine jss_one (js_cut (fun ρ' => ρ' = [some (.v .imm (.il f0)), some (.v .imm d), some (.ownI (b4 f3 n (atB fs n))), some (.v .frs (.int n)), some (.v .frs (.int (atB fs n)))]) (js_if (JW.pt (jw_and (jt_c (jc_eq (je_mod (je_v 3 rfl) je_int (by decide)) je_int)) (fun _ => (jw_and1 (jt_c (jc_neL hu (je_oI 2 rfl) (JOI.je joi_nil))))))) (fun c => ?_) (fun c => ?_)) (fun ρ' h => ?_))
    · rw [Bool.and_eq_true, decide_eq_true_eq, Bool.not_eq_true', decide_eq_false_iff_not] at c
      have e2 : f3 = fs := by rcases hal3 with h | h | h | h <;> first | exact h | (exfalso; have := c.1; omega)
      subst e2
      have hlt := hal c.2
      have hin : inR f3.length (atB f3 n) := ⟨by omega, hlt⟩
      have hin0 : inR f3.length 0 := ⟨by omega, by omega⟩
      refine jss_one (js_swapI 2 rfl (je_tup (l := .frs) (ja_cons (je_ixI (je_oI 2 rfl) je_int hin0) (ja_cons (je_ixI (je_oI 2 rfl) (je_v 4 rfl) hin) ja_nil))) (je_v 4 rfl) je_int hin hin0 ?_)
      unfold b4
      rw [if_pos c]
      rfl
    · have c' : ¬ (n % 11 = 3 ∧ f3 ≠ []) := fun z => by
        rw [decide_eq_true z.1, decide_eq_false z.2] at c
        cases c
      refine jss_nil ?_
      unfold b4
      rw [if_neg c']
    subst h
    exact ⟨_, _, _, hb, by omega, rfl⟩
  obtain ⟨fs, x3, x4, hb, hl, rfl⟩ := hv
  rw [bentF] at hb
  subst hb
  exact jss_one (js_retO 2 rfl rfl)
abbrev N_places_right : List Str := ["_law_row_here", "_law_other", "_law_script", "_law_told", "_law_last", "_law_drawn", "_law_places", "_law_handed", "_law_answers", "_law_place", "_law_cell"]
theorem sc_law_places_right : FnScope N_places_right ["_law_row_here", "_law_other", "_law_script"] (defScope s_law_places_right) := ⟨rfl, rfl, rfl, by decide +kernel, rfl, by decide +kernel, by decide +kernel⟩
def p_law_places_right (ds : List D) : Prop := ∃ (ns ms cs : List Int), ds = [.il ns, .il ms, .scr cs] ∧ ns.length ≤ 900 ∧ ms.length ≤ 900 ∧ cs.length ≤ 63
def g_law_places_right (_ : List D) : D := .bl true
def drT (d : D) : Bool := match d with | .tup [_, .int c] => decide (c / 3 % 2 = 0) | _ => false
def drF (d : D) : Int := match d with | .tup [.int i, _] => i | _ => 0
def drE (ρ : PEnv) (d : D) : PEnv := match d with | .tup [d1, d2] => (ρ.set 9 (some (.v .frs d1))).set 10 (some (.v .frs d2)) | _ => ρ
theorem dleft_is (L S : Addr) (ns ms : List Int) : ∃ X, (X = L ∨ X = S) ∧ dleft L S ns ms = dLeft X (eF 0 ns ms) := by
  unfold dleft
  split
  · exact ⟨L, .inl rfl, rfl⟩
  · exact ⟨S, .inr rfl, rfl⟩
theorem ok_law_places_right {f : Addr} {fd : FuncData} (F : Fun K "_law_places_right" "_law_places_right" s_law_places_right f fd) (T : Blt mg) (LL : Kl K Le ["places"]) (LS : Kl K Sh ["places"])
    (CML : CalleeM P w K mg base 3 Le "shows" (p_Left_shows Le) g_Left_shows) (CMS : CalleeM P w K mg base 3 Sh "shows" (p_Short_shows Sh) g_Short_shows)
    (C_left : CalleeU P w K mg base 3 "left" p_left (g_left Le Sh)) (C_Left : MakerU P w K mg base 1 "Left" Le p_Left_init (g_Left_init Le)) (C_Short : MakerU P w K mg base 1 "Short" Sh p_Short_init (g_Short_init Sh))
    (C_law_bent : CalleeU P w K mg base 1 "_law_bent" p_law_bent g_law_bent) (C_law_says : Callee P w K mg base 1 "_law_says" p_law_says g_law_says) (C_law_stands : Callee P w K mg base 1 "_law_stands" p_law_stands g_law_stands)
    (C_law_short : Callee P w K mg base 2 "_law_short" p_law_short g_law_short) : FnOk P w K mg base CX0 4 f fd ["_law_row_here", "_law_other", "_law_script"] (spF K p_law_places_right g_law_places_right) := by
  refine fn_ok (k := 3) F sc_law_places_right (by rintro ds ⟨i, j, k, rfl, _⟩; rfl) fun cdv A outer s H E hr ds hp => ?_
  obtain ⟨ns, ms, cs, rfl, hz, hz2, hz3⟩ := hp
  have hu : (A.deeper (PyProof.Rows.envOfC "_law_places_right" (defScope s_law_places_right) s.heap.objs.size f cdv)).units + 64 < cLine := hr.units
  have KX : ∀ X, (X = Le ∨ X = Sh) → Kl K X ["places"] := fun X h => by rcases h with rfl | rfl; exact LL; exact LS
  obtain ⟨X, hX, hXd⟩ := dleft_is Le Sh ns ms
  obtain ⟨Y, hY, hYd⟩ := dleft_is Le Sh ns.reverse ms.reverse
  have he1 := eF_len 0 ns ms
  have he2 := eF_len 0 ns.reverse ms.reverse
  rw [List.length_reverse] at he2
  refine jss_cons (js_set 3 (je_fld (d := .il (eF 0 ns ms)) (je_call C_left.callee hr (ja_cons (je_v 0 rfl) (ja_cons (je_v 1 rfl) ja_nil)) ⟨_, _, rfl, by omega, by omega⟩ hXd) (KX X hX).i.cl ((KX X hX).no _ (by simp)) rfl) ?_ (by decide) sc_law_places_right.nd)
  refine jss_cons (js_set 4 (JOI.je (joi_rev (JOI.je (joi_mapI (x := "_law_place") (n := 9) (f := fun p => (ns.length : Int) - 1 - p) (ji_list (je_fld (d := .il (eF 0 ns.reverse ms.reverse)) (je_call C_left.callee hr (ja_cons (JOI.je (joi_rev (je_v 0 rfl))) (ja_cons (JOI.je (joi_rev (je_v 1 rfl))) ja_nil)) ⟨_, _, rfl, by rw [List.length_reverse]; omega, by rw [List.length_reverse]; omega⟩ hYd) (KX Y hY).i.cl ((KX Y hY).no _ (by simp)) rfl)) (fun _ _ _ _ _ _ => jgb_name 9 sc_law_places_right.nd) (fun k hk _ _ _ _ _ => (je_sub (je_sub (je_len T.len (je_v 0 rfl)) je_int) (je_v 9 rfl))) sc_law_places_right.nd (blkOk_by (N := N_places_right) (sc := defScope s_law_places_right) (by decide +kernel)) (by omega))))) ?_ (by decide) sc_law_places_right.nd)
  have hl1 := cutL_length cs none (some (ns.length : Int))
  have hen : (enumI (cutL cs none (some (ns.length : Int)))).length ≤ 63 := by rw [enumI_length]; omega
  refine jss_cons (js_lcVI 5 (own := [("_law_place", 9), ("_law_cell", 10)]) (Tst := drT) (f := drF) (ρd := fun d => drE (wipeL [some (.v .imm (.il ns)), some (.v .imm (.il ms)), some (.v .imm (.scr cs)), some (.v .frs (.il (eF 0 ns ms))), some (.v .frs (.il ((eF 0 ns.reverse ms.reverse).map fun p => (ns.length : Int) - 1 - p).reverse)), none, none, none, none, none, none] [9, 10]) d)
    (ji_enum T.enumerate (JOI.je (joi_cutS (je_v 2 rfl) jp_none (jp_some (je_len T.len (je_v 0 rfl))))))
    (fun d hd _ _ _ _ _ => by obtain ⟨i, j, rfl⟩ := en_mem hd; exact jgb_pair 9 10 sc_law_places_right.nd)
    (fun d hd _ _ _ _ _ => by obtain ⟨i, j, rfl⟩ := en_mem hd; exact jts_one (jt_c (jc_eq (je_mod (je_div (je_v 10 rfl) je_int ⟨by decide, by decide⟩) je_int (by decide)) je_int)))
    (fun d hd _ _ _ _ _ _ => by obtain ⟨i, j, rfl⟩ := en_mem hd; exact je_v 9 rfl) ?_ sc_law_places_right.nd (blkOk_by (N := N_places_right) (sc := defScope s_law_places_right) (by decide +kernel)) (by omega))
  have hdl : (((enumI (cutL cs none (some (ns.length : Int)))).filter drT).map drF).length ≤ 63 := by
    rw [List.length_map]
    exact Nat.le_trans (List.length_filter_le _ _) hen
  have hll : (((eF 0 ns.reverse ms.reverse).map fun p => (ns.length : Int) - 1 - p).reverse).length ≤ 900 := by rw [List.length_reverse, List.length_map]; omega
  generalize ((enumI (cutL cs none (some (ns.length : Int)))).filter drT).map drF = drawn at hdl
  generalize ((eF 0 ns.reverse ms.reverse).map fun p => (ns.length : Int) - 1 - p).reverse = last at hll
  have hbl := bentF_len cs (eF 0 ns ms)
  have hcl := cutL_length (eF 0 ns ms) none (some (-1))
  show JSs _ _ _ [some (.v .imm (.il ns)), some (.v .imm (.il ms)), some (.v .imm (.scr cs)), some (.v .frs (.il (eF 0 ns ms))), some (.v .frs (.il last)), some (.v .frs (.il drawn)), none, none, none, none, none]
  generalize eF 0 ns ms = told at he1 hbl hcl
  refine jss_cons (js_for (fun rest ρ => ∃ (r : List (List Int)) (x6 x7 x8 : Option Lf.E), (∀ l, l ∈ r → l.length ≤ 2000) ∧ rest = r.map D.il ∧ ρ = [some (.v .imm (.il ns)), some (.v .imm (.il ms)), some (.v .imm (.scr cs)), some (.v .frs (.il told)), some (.v .frs (.il last)), some (.v .frs (.il drawn)), x6, x7, x8, none, none])
    (ji_lst (JO.je (jo_lst (l := .frs) (ja_cons (je_v 3 rfl) (ja_cons (je_v 4 rfl) (ja_cons (je_call (d := .il (bentF told cs)) C_law_bent.callee hr (ja_cons (je_v 3 rfl) (ja_cons (je_v 2 rfl) ja_nil)) ⟨_, _, _, rfl, .inl rfl, by omega, by omega⟩) (ja_cons (je_v 5 rfl) (ja_cons (JOI.je (joi_cut (je_v 3 rfl) jp_none (jp_some (je_neg je_int)))) (ja_cons (JOI.je joi_nil) (ja_cons (JOI.je (joi_cat (JOI.je (joi_lst (l := .frs) (ns := [-1]) (ja_cons (je_neg je_int) ja_nil))) (je_v 3 rfl) (by rw [List.length_singleton]; omega))) ja_nil))))))))))
    ⟨[told, last, bentF told cs, drawn, cutL told none (some (-1)), [], [-1] ++ told], none, none, none, fun l hl => by
      simp only [List.mem_cons, List.not_mem_nil, or_false] at hl
      rcases hl with rfl | rfl | rfl | rfl | rfl | rfl | rfl
      · omega
      · omega
      · omega
      · omega
      · omega
      · show 0 ≤ 2000; omega
      · show told.length + 1 ≤ 2000; omega, rfl, rfl⟩ (fun d rest ρ' hv => ?_) (fun ρ' hv => ?_))
  · obtain ⟨r, x6, x7, x8, hr', hrest, rfl⟩ := hv
    cases r with
    | nil => cases hrest
    | cons ps r =>
      obtain ⟨rfl, rfl⟩ := List.cons.inj hrest
      have hps := hr' ps (List.mem_cons_self ..)
      refine ⟨_, jg_name 6 sc_law_places_right.nd, ?_⟩
      refine jss_cons (js_setOI 7 (joi_list T.list (je_v 6 rfl)) ?_ sc_law_places_right.nd)
      refine jss_cons (js_set 8 (JO.je (jo_lst (l := .frs) (ja_cons (JU.je (ju_makeB (d := dLeft Le ps) C_Left hr (ja_cons (je_oI 7 rfl) ja_nil) ⟨_, rfl⟩ rfl)) (ja_cons (JU.je (ju_makeB (d := dLeft Sh ps) C_Short hr (ja_cons (je_oI 7 rfl) ja_nil) ⟨_, rfl⟩ rfl)) ja_nil)))) ?_ (by decide) sc_law_places_right.nd)
      refine jss_cons (js_appI 7 rfl je_int ?_ (by omega))
      refine jss_cons (js_if (JW.pt (jw_or (jt_c (jc_neL hu (je_fld (d := .il ps) (je_ixD (d := dLeft Le ps) (je_v 8 rfl) je_int ⟨of_decide_eq_true rfl, of_decide_eq_true rfl⟩) LL.i.cl (LL.no _ (by simp)) rfl) (je_v 6 rfl))) (fun _ => (jw_or1 (jt_c (jc_neL hu (je_fld (d := .il ps) (je_ixD (d := dLeft Sh ps) (je_v 8 rfl) je_int ⟨of_decide_eq_true rfl, of_decide_eq_true rfl⟩) LS.i.cl (LS.no _ (by simp)) rfl) (je_v 6 rfl))))))) (fun c => ?_) (fun c => ?_))
      · rw [decide_eq_true rfl] at c
        cases c
      refine jss_nil ?_
      refine jss_cons (js_if (jt_not (jt_v (v := true) (je_call C_law_says hr (ja_cons (je_meth CML hr (je_ixD (d := dLeft Le ps) (je_v 8 rfl) je_int ⟨of_decide_eq_true rfl, of_decide_eq_true rfl⟩) rfl (ja_cons (je_v 0 rfl) (ja_cons (je_v 1 rfl) ja_nil)) ⟨_, _, _, rfl, by omega⟩) (ja_cons (je_call C_law_stands hr (ja_cons (je_v 0 rfl) (ja_cons (je_v 6 rfl) (ja_cons (je_v 1 rfl) ja_nil))) ⟨_, _, _, rfl⟩) ja_nil)) ⟨_, _, rfl⟩ (says_same (stdF ns ps ms))))) (fun c => ?_) (fun c => ?_))
      · cases c
      refine jss_nil ?_
      refine jss_one (js_if (jt_not (jt_v (v := true) (je_call C_law_says hr (ja_cons (je_meth CMS hr (je_ixD (d := dLeft Sh ps) (je_v 8 rfl) je_int ⟨of_decide_eq_true rfl, of_decide_eq_true rfl⟩) rfl (ja_cons (je_v 0 rfl) (ja_cons (je_v 1 rfl) ja_nil)) ⟨_, _, _, rfl, by omega⟩) (ja_cons (je_call C_law_short hr (ja_cons (je_v 0 rfl) (ja_cons (je_v 1 rfl) (ja_cons (je_v 6 rfl) ja_nil))) ⟨_, _, _, rfl, by omega⟩) ja_nil)) ⟨_, _, rfl⟩ (says_same (shF ns ps ms))))) (fun c => ?_) (fun c => ?_))
      · cases c
      exact jss_nil ⟨r, _, _, _, fun l hl => hr' l (List.mem_cons_of_mem _ hl), rfl, rfl⟩
  obtain ⟨r, x6, x7, x8, _, hrest, rfl⟩ := hv
  exact jss_one (js_ret je_bl rfl)

end
end Kc

set_option Elab.async false
set_option linter.all false
set_option maxRecDepth 100000
set_option maxHeartbeats 2000000
set_option autoImplicit false
namespace Kc
open PySem L2 Lf M1 M2
section
variable {P : Program} {w : World} {K : PySem.W.Frag} {mg : Str → Option Value} {base : Heap}
open M3 M4
variable {An Bo Le Lo Mi Mx Sh Un : Addr}
structure Apps (t : G) (r : List (Addr × List Nat × List Int)) : Prop where
  hat : ∀ e, e ∈ r → G.at e.2.1 t = some (.li e.1 e.2.2) ∧ e.2.2.length ≤ 2000
  nd : (r.map (·.2.1)).Nodup
theorem Apps.step {t : G} {e : Addr × List Nat × List Int} {r : List (Addr × List Nat × List Int)} (h : Apps t (e :: r)) : Apps (G.put e.2.1 (.li e.1 (e.2.2 ++ [0])) t) r := by
  have hn := h.nd
  rw [List.map_cons, List.nodup_cons] at hn
  obtain ⟨h1, _⟩ := h.hat e (List.mem_cons_self ..)
  refine ⟨fun e' he' => ?_, hn.2⟩
  obtain ⟨h2, h3⟩ := h.hat e' (List.mem_cons_of_mem _ he')
  exact ⟨at_put _ _ t h1 h2 (fun z => hn.1 (by rw [z]; exact List.mem_map.mpr ⟨e', he', rfl⟩)), h3⟩
def rowE (q : Nat) : Nat → List G → List (Addr × List Nat × List Int)
  | _, [] => []
  | k, .li b l :: r => (b, [q, k], l) :: rowE q (k + 1) r
  | k, _ :: r => rowE q (k + 1) r
theorem rowE_spec {q : Nat} : ∀ (rs : List G) (xs : List (List Int)) (k : Nat), erases rs = xs.map D.il → okGs rs = true →
    rs.map root = (rowE q k rs).map (fun e => D.ptr e.1) ∧ (∀ e, e ∈ rowE q k rs → ∃ i, e.2.1 = [q, k + i] ∧ rs[i]? = some (.li e.1 e.2.2) ∧ e.2.2 ∈ xs) ∧ ((rowE q k rs).map (·.2.1)).Nodup := by
  intro rs
  induction rs with
  | nil => intro xs k _ _; exact ⟨rfl, (fun e h => by cases h), List.nodup_nil⟩
  | cons g r ih =>
    intro xs k he ho
    cases xs with
    | nil => rw [erases] at he; cases he
    | cons x xs =>
      rw [erases, List.map_cons] at he
      obtain ⟨h1, h2⟩ := List.cons.inj he
      rw [okGs, Bool.and_eq_true] at ho
      obtain ⟨b, rfl⟩ := okG_il h1 ho.1
      obtain ⟨i1, i2, i3⟩ := ih xs (k + 1) h2 ho.2
      refine ⟨?_, fun e hm => ?_, ?_⟩
      · rw [rowE, List.map_cons, List.map_cons, i1]; rfl
      · rw [rowE] at hm
        rcases List.mem_cons.mp hm with rfl | hm
        · exact ⟨0, rfl, rfl, List.mem_cons_self ..⟩
        · obtain ⟨i, j1, j2, j3⟩ := i2 e hm
          exact ⟨i + 1, by rw [j1]; congr 2; omega, by rw [List.getElem?_cons_succ]; exact j2, List.mem_cons_of_mem _ j3⟩
      · rw [rowE, List.map_cons, List.nodup_cons]
        refine ⟨fun hm => ?_, i3⟩
        obtain ⟨e, he', hz⟩ := List.mem_map.mp hm
        obtain ⟨i, j1, _, _⟩ := i2 e he'
        rw [j1] at hz
        simp only [List.cons.injEq, and_true, true_and] at hz
        omega
theorem roots_scal : ∀ (es : List (Addr × List Nat × List Int)), (es.map fun e => D.ptr e.1).all scal = true
  | [] => rfl
  | e :: r => by
    rw [List.map_cons, List.all_cons, roots_scal r]
    rfl
theorem lay_ilsT (tab : List (List Int)) : lay (ils tab) = true := lay_ils tab
theorem dep_ils2 (tab : List (List Int)) : dep (ils tab) ≤ 3 := dep_map (fun _ => Nat.le_refl 2) tab
def shH (b b0 b1 b2 b3 : Addr) (x y z : List Int) (rs : List G) : G := .ls b [.li b0 x, .li b1 y, .li b2 z, .ls b3 rs]
theorem shH_at {b b0 b1 b2 b3 : Addr} {x y z : List Int} {rs : List G} {i : Nat} {g : G} (h : rs[i]? = some g) : G.at [3, i] (shH b b0 b1 b2 b3 x y z rs) = some g := by
  show (match rs[i]? with | some g => G.at [] g | none => none) = some g
  rw [h]
  rfl
theorem shH_apps {b b0 b1 b2 b3 : Addr} {x y z : List Int} {rs : List G} {tab : List (List Int)} (he : erases rs = tab.map D.il) (ho : okGs rs = true) (hx : x.length ≤ 2000) (hy : y.length ≤ 2000) (hz : z.length ≤ 2000) (ht : ∀ l, l ∈ tab → l.length ≤ 2000) :
    Apps (shH b b0 b1 b2 b3 x y z rs) ((b0, [0], x) :: (b1, [1], y) :: (b2, [2], z) :: rowE 3 0 rs) := by
  obtain ⟨_, i2, i3⟩ := rowE_spec (q := 3) rs tab 0 he ho
  have hne : ∀ p : List Nat, p.length = 1 → p ∉ (rowE 3 0 rs).map (·.2.1) := fun p hp hm => by
    obtain ⟨e, he', hz'⟩ := List.mem_map.mp hm
    obtain ⟨i, j1, _, _⟩ := i2 e he'
    rw [j1] at hz'
    rw [← hz'] at hp
    cases hp
  refine ⟨fun e hm => ?_, ?_⟩
  · rcases List.mem_cons.mp hm with rfl | hm
    · exact ⟨rfl, hx⟩
    rcases List.mem_cons.mp hm with rfl | hm
    · exact ⟨rfl, hy⟩
    rcases List.mem_cons.mp hm with rfl | hm
    · exact ⟨rfl, hz⟩
    obtain ⟨i, j1, j2, j3⟩ := i2 e hm
    refine ⟨?_, ht _ j3⟩
    rw [j1, Nat.zero_add]
    exact shH_at j2
  · rw [List.map_cons, List.map_cons, List.map_cons]
    refine List.nodup_cons.mpr ⟨fun hm => ?_, List.nodup_cons.mpr ⟨fun hm => ?_, List.nodup_cons.mpr ⟨hne _ rfl, i3⟩⟩⟩
    · rcases List.mem_cons.mp hm with h | hm
      · cases h
      rcases List.mem_cons.mp hm with h | hm
      · cases h
      exact hne _ rfl hm
    · rcases List.mem_cons.mp hm with h | hm
      · cases h
      exact hne _ rfl hm
abbrev N_rows_right : List Str := ["_law_one", "_law_other", "_law_both", "_law_table_here", "_law_row_here", "_law_second", "_law_mine", "_law_theirs", "_law_handed", "_law_answer", "_law_line", "_law_due"]
theorem sc_law_rows_right : FnScope N_rows_right ["_law_one", "_law_other", "_law_both", "_law_table_here"] (defScope s_law_rows_right) := ⟨rfl, rfl, rfl, by decide +kernel, rfl, by decide +kernel, by decide +kernel⟩
def p_law_rows_right (X : Addr) (ds : List D) : Prop := ∃ (ns ms row mi th : List Int) (t0 tab : List (List Int)), ds = [.il ns, .il ms, dBoth X row mi th t0, ils tab] ∧ ns.length ≤ 100 ∧ ms.length ≤ 100 ∧ row.length ≤ 500 ∧ mi.length ≤ 500 ∧ th.length ≤ 500 ∧ tab.length ≤ 1000 ∧ ∀ l, l ∈ tab → l.length ≤ 2000
def g_law_rows_right (_ : List D) : D := .bl true
theorem ok_law_rows_right {f : Addr} {fd : FuncData} (F : Fun K "_law_rows_right" "_law_rows_right" s_law_rows_right f fd) (T : Blt mg) (L : Kl K Bo ["row", "mine", "theirs", "table"])
    (CM : CalleeM P w K mg base 3 Bo "shows" (p_Both_shows Bo) g_Both_shows) (C_Both : MakerU P w K mg base 1 "Both" Bo p_Both_init (g_Both_init Bo))
    (C_law_says : Callee P w K mg base 1 "_law_says" p_law_says g_law_says) (C_law_stands : Callee P w K mg base 1 "_law_stands" p_law_stands g_law_stands) (C_law_table : Callee P w K mg base 1 "_law_table" p_is_table g_is_table) :
    FnOk P w K mg base CX0 4 f fd ["_law_one", "_law_other", "_law_both", "_law_table_here"] (spF K (p_law_rows_right Bo) g_law_rows_right) := by
  refine fn_ok (k := 3) F sc_law_rows_right (by rintro ds ⟨i, j, k, l, m, n, o, rfl, _⟩; rfl) fun cdv A outer s H E hr ds hp => ?_
  obtain ⟨ns, ms, row0, mi0, th0, t0, tab, rfl, hz, hz2, hz3, hz4, hz5, hz6, hz7⟩ := hp
  have hu : (A.deeper (PyProof.Rows.envOfC "_law_rows_right" (defScope s_law_rows_right) s.heap.objs.size f cdv)).units + 64 < cLine := hr.units
  have n0 := L.no "row" (by simp)
  have n1 := L.no "mine" (by simp)
  have n2 := L.no "theirs" (by simp)
  have n3 := L.no "table" (by simp)
  have hc0 := cutL_length row0 none (some (-1))
  refine jss_cons (js_for (fun rest ρ => ∃ (r : List (List Int)) (x4 x5 x6 x7 x8 x9 x10 x11 : Option Lf.E), (∀ l, l ∈ r → l.length ≤ 500) ∧ rest = r.map D.il ∧ ρ = [some (.v .imm (.il ns)), some (.v .imm (.il ms)), some (.v .imm (dBoth Bo row0 mi0 th0 t0)), some (.v .imm (ils tab)), x4, x5, x6, x7, x8, x9, x10, x11])
    (ji_lst (JO.je (jo_lst (l := .imm) (ja_cons (je_fld (d := .il row0) (je_v 2 rfl) L.i.cl n0 rfl) (ja_cons (JOI.je (joi_cat (je_v 0 rfl) (je_v 1 rfl) (by omega))) (ja_cons (JOI.je (joi_cut (je_fld (d := .il row0) (je_v 2 rfl) L.i.cl n0 rfl) jp_none (jp_some (je_neg je_int)))) ja_nil))))))
    ⟨[row0, ns ++ ms, cutL row0 none (some (-1))], none, none, none, none, none, none, none, none, fun l hl => by
      simp only [List.mem_cons, List.not_mem_nil, or_false] at hl
      rcases hl with rfl | rfl | rfl
      · omega
      · rw [List.length_append]; omega
      · omega, rfl, rfl⟩ (fun d rest ρ' hv => ?_) (fun ρ' hv => ?_))
  · obtain ⟨r, x4, x5, x6, x7, x8, x9, x10, x11, hr', hrest, rfl⟩ := hv
    cases r with
    | nil => cases hrest
    | cons row r =>
      obtain ⟨rfl, rfl⟩ := List.cons.inj hrest
      have hrow := hr' row (List.mem_cons_self ..)
      refine ⟨_, jg_name 4 sc_law_rows_right.nd, ?_⟩
      refine jss_cons (js_set 5 (JOI.je (joi_listRg2 T.list T.range (je_len T.len (je_v 0 rfl)) (je_add (je_len T.len (je_v 0 rfl)) (je_len T.len (je_v 1 rfl))) ⟨by omega, by omega, by omega, by omega⟩)) ?_ (by decide) sc_law_rows_right.nd)
      have hsl : (rngI (ns.length : Int) ((ns.length : Int) + (ms.length : Int) - (ns.length : Int)).toNat).length ≤ 500 := by rw [rngI_length]; omega
      generalize rngI (ns.length : Int) ((ns.length : Int) + (ms.length : Int) - (ns.length : Int)).toNat = second at hsl
      have hrl : (rngI 0 (ns.length : Int).toNat).length ≤ 500 := by rw [rngI_length]; omega
      refine jss_one (js_for (fun rest ρ => ∃ (q : List (List Int × List Int)) (x6 x7 x8 x9 x10 x11 : Option Lf.E), (∀ l, l ∈ q → l.1.length ≤ 500 ∧ l.2.length ≤ 500) ∧ rest = q.map (fun l => D.tup [.il l.1, .il l.2]) ∧ ρ = [some (.v .imm (.il ns)), some (.v .imm (.il ms)), some (.v .imm (dBoth Bo row0 mi0 th0 t0)), some (.v .imm (ils tab)), some (.v .imm (.il row)), some (.v .frs (.il second)), x6, x7, x8, x9, x10, x11])
        (ji_lst (JO.je (jo_lst (l := .imm) (ja_cons (je_tup (l := .imm) (ja_cons (je_fld (d := .il mi0) (je_v 2 rfl) L.i.cl n1 rfl) (ja_cons (je_fld (d := .il th0) (je_v 2 rfl) L.i.cl n2 rfl) ja_nil))) (ja_cons (je_tup (l := .imm) (ja_cons (JOI.je (joi_listRg T.list T.range (je_len T.len (je_v 0 rfl)) ⟨by omega, by omega⟩)) (ja_cons (je_v 5 rfl) ja_nil))) ja_nil)))))
        ⟨[(mi0, th0), (rngI 0 (ns.length : Int).toNat, second)], _, _, _, _, _, _, fun l hl => by
          simp only [List.mem_cons, List.not_mem_nil, or_false] at hl
          rcases hl with rfl | rfl
          · exact ⟨hz4, hz5⟩
          · exact ⟨hrl, hsl⟩, rfl, rfl⟩ (fun d rest ρ' hv => ?_) (fun ρ' hv => ?_))
      · obtain ⟨q, x6, x7, x8, x9, x10, x11, hq', hqrest, rfl⟩ := hv
        cases q with
        | nil => cases hqrest
        | cons mt q =>
          obtain ⟨rfl, rfl⟩ := List.cons.inj hqrest
          obtain ⟨mi, th⟩ := mt
          obtain ⟨hmi, hth⟩ := hq' (mi, th) (List.mem_cons_self ..)
          have hmi : mi.length ≤ 500 := hmi
          have hth : th.length ≤ 500 := hth
          refine ⟨_, jg_pair 6 7 sc_law_rows_right.nd, ?_⟩
          refine jss_cons (js_setU 8 (d := .lst [.il row, .il mi, .il th, ils tab]) (ju_lst (l := .frs) (jau_cons (JOI.ju (joi_list T.list (je_v 4 rfl))) (jau_cons (JOI.ju (joi_list T.list (je_v 6 rfl))) (jau_cons (JOI.ju (joi_list T.list (je_v 7 rfl))) (jau_cons (JU.eq (d1 := ils tab) (ju_lc (own := [("_law_line", 10)]) (l' := .frs) (Tst := fun _ => true) (f := fun d => d) (ρd := fun d => (wipeE _ 10).set 10 (some (.v .imm d))) (ji_lst (je_v 3 rfl)) (fun d hd _ _ _ _ _ => jgb_name 10 sc_law_rows_right.nd) (fun _ _ _ _ _ _ _ => jts_nil) (fun d hd _ _ _ _ _ _ => by
            obtain ⟨l, _, rfl⟩ := List.mem_map.mp hd
            exact JOI.ju (joi_list T.list (je_v 10 rfl))) sc_law_rows_right.nd (blkOk_by (N := N_rows_right) (sc := defScope s_law_rows_right) (by decide +kernel)) (by rw [List.length_map]; omega)) (by rw [filter_t4, List.map_id']; rfl)) jau_nil))))) (fun g eg og => ?_) (by decide) sc_law_rows_right.nd)
          obtain ⟨b, gs, rfl, eg0, og0⟩ := okG_lst eg og
          obtain ⟨g0, r0, rfl, eg1, og1, eg2, og2⟩ := okGs_cons eg0 og0
          obtain ⟨b0, rfl⟩ := okG_il eg1 og1
          obtain ⟨g1, r1, rfl, eg3, og3, eg4, og4⟩ := okGs_cons eg2 og2
          obtain ⟨b1, rfl⟩ := okG_il eg3 og3
          obtain ⟨g2, r2, rfl, eg5, og5, eg6, og6⟩ := okGs_cons eg4 og4
          obtain ⟨b2, rfl⟩ := okG_il eg5 og5
          obtain ⟨g3, r3, rfl, eg7, og7, eg8, og8⟩ := okGs_cons eg6 og6
          obtain ⟨b3, rs, rfl, ers, ors⟩ := okG_lst eg7 og7
          have := okGs_nil eg8
          subst this
          obtain ⟨hroots, _, _⟩ := rowE_spec (q := 3) rs tab 0 ers ors
          have happs := shH_apps (b := b) (b0 := b0) (b1 := b1) (b2 := b2) (b3 := b3) (x := row) (y := mi) (z := th) ers ors (by omega) (by omega) (by omega) hz7
          have hrsl := erases_len ers
          show JSs _ _ _ [some (.v .imm (.il ns)), some (.v .imm (.il ms)), some (.v .imm (dBoth Bo row0 mi0 th0 t0)), some (.v .imm (ils tab)), some (.v .imm (.il row)), some (.v .frs (.il second)), some (.v .imm (.il mi)), some (.v .imm (.il th)), some (.tr .frs (shH b b0 b1 b2 b3 row mi th rs)), x9, x10, x11]
          have er0 : erase (shH b b0 b1 b2 b3 row mi th rs) = .lst [.il row, .il mi, .il th, ils tab] := eg
          refine jss_cons (js_set 9 (JU.je (ju_makeB (d := dBoth Bo row mi th tab) C_Both hr (ja_cons (je_ixD (d := .il row) (je_tr 8 rfl er0) je_int ⟨of_decide_eq_true rfl, of_decide_eq_true rfl⟩) (ja_cons (je_ixD (d := .il mi) (je_tr 8 rfl er0) je_int ⟨of_decide_eq_true rfl, of_decide_eq_true rfl⟩) (ja_cons (je_ixD (d := .il th) (je_tr 8 rfl er0) je_int ⟨of_decide_eq_true rfl, of_decide_eq_true rfl⟩) (ja_cons (je_ixD (d := ils tab) (je_tr 8 rfl er0) je_int ⟨of_decide_eq_true rfl, of_decide_eq_true rfl⟩) ja_nil)))) ⟨_, _, _, _, rfl, by omega⟩ (by
            show (bareDs (tab.map D.il) && true) = true
            rw [bare_ils]
            rfl))) ?_ (by decide) sc_law_rows_right.nd)
          refine jss_cons (js_for (fun rest ρ => ∃ (es : List (Addr × List Nat × List Int)) (t : G) (x10 : Option Lf.E), rest = es.map (fun e => D.ptr e.1) ∧ Apps t es ∧ ρ = [some (.v .imm (.il ns)), some (.v .imm (.il ms)), some (.v .imm (dBoth Bo row0 mi0 th0 t0)), some (.v .imm (ils tab)), some (.v .imm (.il row)), some (.v .frs (.il second)), some (.v .imm (.il mi)), some (.v .imm (.il th)), some (.tr .frs t), some (.v .frs (dBoth Bo row mi th tab)), x10, x11])
            (ji_lst (JO.je (jo_catF (ds := [.ptr b0, .ptr b1, .ptr b2]) (fs := rs.map root) (JO.je (jo_cutF (ds := [.ptr b0, .ptr b1, .ptr b2, .ptr b3]) (je_view 8 [] (je_trR 8 rfl) rfl rfl) jp_none (jp_some je_int) rfl)) (je_view 8 [3] (je_ixD (d := .ptr b3) (je_view 8 [] (je_trR 8 rfl) rfl rfl) je_int ⟨of_decide_eq_true rfl, of_decide_eq_true rfl⟩) rfl rfl) rfl (by rw [hroots]; exact roots_scal _) (by rw [List.length_map]; show 3 + _ ≤ _; omega))))
            ⟨(b0, [0], row) :: (b1, [1], mi) :: (b2, [2], th) :: rowE 3 0 rs, _, _, by rw [hroots]; rfl, happs, rfl⟩ (fun d rest ρ' hv => ?_) (fun ρ' hv => ?_))
          · obtain ⟨es, t, x10, hes, hap, rfl⟩ := hv
            cases es with
            | nil => cases hes
            | cons e es =>
              obtain ⟨rfl, rfl⟩ := List.cons.inj hes
              obtain ⟨h1, h2⟩ := hap.hat e (List.mem_cons_self ..)
              refine ⟨_, jg_name 10 sc_law_rows_right.nd, ?_⟩
              refine jss_one (js_appPI 8 e.2.1 (r := e.1) (je_v 10 rfl) rfl h1 je_int ?_ (by omega))
              exact ⟨es, _, _, rfl, hap.step, rfl⟩
          obtain ⟨es, t, x10', _, _, rfl⟩ := hv
          have hly : lay (.lst [.il row, .il mi, .il th, ils tab]) = true := by
            show (lay (ils tab) && true) = true
            rw [lay_ils]
            rfl
          have hdp : dep (.lst [.il row, .il mi, .il th, ils tab]) ≤ 64 := by
            show Nat.max 2 (Nat.max 2 (Nat.max 2 (Nat.max (dep (ils tab)) 0))) + 1 ≤ 64
            have := dep_ils2 tab
            generalize dep (ils tab) = z at this
            simp only [Nat.max_def]
            repeat' split
            all_goals omega
          refine jss_cons (js_if (jt_c (jc_neG hu (d1 := .lst [.il row, .il mi, .il th, ils tab]) (d2 := .lst [.il row, .il mi, .il th, ils tab]) (JO.je (jo_lst (l := .imm) (ja_cons (je_fld (d := .il row) (je_v 9 rfl) L.i.cl n0 rfl) (ja_cons (je_fld (d := .il mi) (je_v 9 rfl) L.i.cl n1 rfl) (ja_cons (je_fld (d := .il th) (je_v 9 rfl) L.i.cl n2 rfl) (ja_cons (je_fld (d := ils tab) (je_v 9 rfl) L.i.cl n3 rfl) ja_nil)))))) (JO.je (jo_lst (l := .imm) (ja_cons (je_v 4 rfl) (ja_cons (je_v 6 rfl) (ja_cons (je_v 7 rfl) (ja_cons (je_v 3 rfl) ja_nil)))))) hly hly hdp hdp)) (fun c => ?_) (fun c => ?_))
          · rw [eqD_refl hly] at c
            cases c
          refine jss_nil ?_
          refine jss_cons (js_set 11 (d := .bl (stdF row mi ns && (stdF row th ms && dec (TabOk ns ms tab)))) (je_and (v := stdF row mi ns) (je_call C_law_stands hr (ja_cons (je_v 4 rfl) (ja_cons (je_v 6 rfl) (ja_cons (je_v 0 rfl) ja_nil))) ⟨_, _, _, rfl⟩) (fun _ => (je_and (v := stdF row th ms) (je_call C_law_stands hr (ja_cons (je_v 4 rfl) (ja_cons (je_v 7 rfl) (ja_cons (je_v 1 rfl) ja_nil))) ⟨_, _, _, rfl⟩) (fun _ => (je_one (je_call C_law_table hr (ja_cons (je_v 0 rfl) (ja_cons (je_v 1 rfl) (ja_cons (je_v 3 rfl) ja_nil))) ⟨_, _, _, rfl, by omega, by omega⟩ (g_tab ns ms tab))))))) ?_ (by decide) sc_law_rows_right.nd)
          refine jss_cons (js_set 11 (d := .bl (bothF ns ms row mi th tab)) (JE.eq (je_and (v := stdF row mi ns && (stdF row th ms && dec (TabOk ns ms tab))) (u := decide ((row.length : Int) + g tab ns.length ms.length = (ns.length : Int) + (ms.length : Int))) (je_v 11 rfl) (fun c => by
            rw [Bool.and_eq_true, Bool.and_eq_true] at c
            have ct := of_dec c.2.2
            exact (je_one (je_c (jc_eq (je_add (je_len T.len (je_v 4 rfl)) (je_lastCell (n := ns.length) (m := ms.length) (je_v 3 rfl) (je_neg je_int) (je_neg je_int) ct.n (ct.m _ (Nat.le_refl _)))) (je_add (je_len T.len (je_v 0 rfl)) (je_len T.len (je_v 1 rfl)))))))) (by unfold bothF; rw [Bool.and_assoc, Bool.and_assoc])) ?_ (by decide) sc_law_rows_right.nd)
          refine jss_one (js_if (jt_not (jt_v (v := true) (je_call C_law_says hr (ja_cons (je_meth CM hr (je_v 9 rfl) rfl (ja_cons (je_v 0 rfl) (ja_cons (je_v 1 rfl) ja_nil)) ⟨_, _, _, _, _, _, rfl, by omega, by omega, by omega⟩ (g_both Bo row mi th tab ns ms)) (ja_cons (je_v 11 rfl) ja_nil)) ⟨_, _, rfl⟩ (says_same (bothF ns ms row mi th tab))))) (fun c => ?_) (fun c => ?_))
          · cases c
          exact jss_nil ⟨q, _, _, _, _, _, _, fun l hl => hq' l (List.mem_cons_of_mem _ hl), rfl, rfl⟩
      obtain ⟨q, x6', x7', x8', x9', x10', x11', _, _, rfl⟩ := hv
      exact ⟨r, _, _, _, _, _, _, _, _, fun l hl => hr' l (List.mem_cons_of_mem _ hl), rfl, rfl⟩
  obtain ⟨r, x4, x5, x6, x7, x8, x9, x10, x11, _, _, rfl⟩ := hv
  exact jss_one (js_ret je_bl rfl)

end
end Kc

set_option Elab.async false
set_option linter.all false
set_option maxRecDepth 100000
set_option maxHeartbeats 2000000
set_option autoImplicit false
namespace Kc
open PySem L2 Lf M1 M2
section
variable {P : Program} {w : World} {K : PySem.W.Frag} {mg : Str → Option Value} {base : Heap}
open M3 M4
variable {An Bo Le Lo Mi Mx Sh Un : Addr}
def shT (b b0 b1 b2 : Addr) (x y : List Int) (rs : List G) : G := .ls b [.li b0 x, .li b1 y, .ls b2 rs]
theorem shT_apps {b b0 b1 b2 : Addr} {x y : List Int} {rs : List G} {tab : List (List Int)} (he : erases rs = tab.map D.il) (ho : okGs rs = true) (hx : x.length ≤ 2000) (hy : y.length ≤ 2000) (ht : ∀ l, l ∈ tab → l.length ≤ 2000) :
    Apps (shT b b0 b1 b2 x y rs) ((b0, [0], x) :: (b1, [1], y) :: rowE 2 0 rs) := by
  obtain ⟨_, i2, i3⟩ := rowE_spec (q := 2) rs tab 0 he ho
  have hne : ∀ p : List Nat, p.length = 1 → p ∉ (rowE 2 0 rs).map (·.2.1) := fun p hp hm => by
    obtain ⟨e, he', hz'⟩ := List.mem_map.mp hm
    obtain ⟨i, j1, _, _⟩ := i2 e he'
    rw [j1] at hz'
    rw [← hz'] at hp
    cases hp
  refine ⟨fun e hm => ?_, ?_⟩
  · rcases List.mem_cons.mp hm with rfl | hm
    · exact ⟨rfl, hx⟩
    rcases List.mem_cons.mp hm with rfl | hm
    · exact ⟨rfl, hy⟩
    obtain ⟨i, j1, j2, j3⟩ := i2 e hm
    refine ⟨?_, ht _ j3⟩
    rw [j1, Nat.zero_add]
    show (match rs[i]? with | some g => G.at [] g | none => none) = some _
    rw [j2]
    rfl
  · rw [List.map_cons, List.map_cons]
    refine List.nodup_cons.mpr ⟨fun hm => ?_, List.nodup_cons.mpr ⟨hne _ rfl, i3⟩⟩
    rcases List.mem_cons.mp hm with h | hm
    · cases h
    exact hne _ rfl hm
theorem shT_put {b b0 b1 b2 : Addr} {p : List Nat} {a : Addr} {l l' : List Int} {n : Nat} {t : G} (h : ∃ x y rs, t = shT b b0 b1 b2 x y rs ∧ rs.length = n) (ha : G.at p t = some (.li a l)) : ∃ x y rs, G.put p (.li a l') t = shT b b0 b1 b2 x y rs ∧ rs.length = n := by
  obtain ⟨x, y, rs, rfl, hn⟩ := h
  match p, ha with
  | [], ha => cases ha
  | [0], ha => cases ha; exact ⟨_, _, _, rfl, hn⟩
  | [1], ha => cases ha; exact ⟨_, _, _, rfl, hn⟩
  | [2], ha => cases ha
  | 0 :: _ :: _, ha => cases ha
  | 1 :: _ :: _, ha => cases ha
  | 2 :: i :: q, ha =>
    show ∃ x' y' rs', G.ls b [.li b0 x, .li b1 y, (match rs[i]? with | some g => .ls b2 (rs.set i (G.put q (.li a l') g)) | none => .ls b2 rs)] = shT b b0 b1 b2 x' y' rs' ∧ rs'.length = n
    cases rs[i]? with
    | none => exact ⟨_, _, _, rfl, hn⟩
    | some g => exact ⟨_, _, _, rfl, by rw [List.length_set]; exact hn⟩
  | (i + 3) :: q, ha =>
    cases ha
abbrev N_tables_right : List Str := ["_law_one", "_law_other", "_law_script", "_law_lines", "_law_at", "_law_greater", "_law_some", "_law_table_here", "_law_found", "_law_both", "_law_line", "_law_mine", "_law_theirs", "_law_handed", "_law_answer", "_law_number"]
theorem sc_law_tables_right : FnScope N_tables_right ["_law_one", "_law_other", "_law_script"] (defScope s_law_tables_right) := ⟨rfl, rfl, rfl, by decide +kernel, rfl, by decide +kernel, by decide +kernel⟩
def p_law_tables_right (ds : List D) : Prop := ∃ (ns ms cs : List Int), ds = [.il ns, .il ms, .scr cs] ∧ ns.length ≤ 100 ∧ ms.length ≤ 100 ∧ cs.length ≤ 63
def g_law_tables_right (_ : List D) : D := .bl true
def incF (d : D) : D := match d with | .il l => .il (l.map fun k => k + 1) | d => d
theorem incF_map (tab : List (List Int)) : ((tab.map D.il).filter fun _ => true).map incF = (tab.map fun l => l.map fun k => k + 1).map D.il := by
  rw [filter_tt, List.map_map, List.map_map]
  rfl
theorem ils_cut (tab : List (List Int)) (lo hi : Option Int) : D.lst (cutL (tab.map D.il) lo hi) = ils (cutL tab lo hi) := by
  rw [cutL_map]
  rfl
theorem ils_snoc (tab : List (List Int)) (l : List Int) : D.lst (tab.map D.il ++ [.il l]) = ils (tab ++ [l]) := by
  show _ = D.lst _
  rw [List.map_append]
  rfl
theorem mem_cutL {α : Type} {xs : List α} {lo hi : Option Int} {x : α} (h : x ∈ cutL xs lo hi) : x ∈ xs := by
  unfold cutL at h
  exact List.mem_of_mem_drop (List.mem_of_mem_take h)
theorem ok_law_tables_right {f : Addr} {fd : FuncData} (F : Fun K "_law_tables_right" "_law_tables_right" s_law_tables_right f fd) (T : Blt mg) (L : Kl K Lo ["mine", "theirs", "table"])
    (CM : CalleeM P w K mg base 2 Lo "shows" (p_Longest_shows Lo) g_Longest_shows) (C_Longest : MakerU P w K mg base 1 "Longest" Lo p_Longest_init (g_Longest_init Lo))
    (C_longest : CalleeU P w K mg base 3 "longest" p_longest (g_longest Lo)) (C_shortest : CalleeUR P w K mg base 3 "shortest" p_shortest (r_shortest Bo))
    (C_law_bent : CalleeU P w K mg base 1 "_law_bent" p_law_bent g_law_bent) (C_law_says : Callee P w K mg base 1 "_law_says" p_law_says g_law_says) (C_law_long : Callee P w K mg base 2 "_law_long" p_law_long g_law_long)
    (C_law_rows_right : Callee P w K mg base 4 "_law_rows_right" (p_law_rows_right Bo) g_law_rows_right) :
    FnOk P w K mg base CX0 5 f fd ["_law_one", "_law_other", "_law_script"] (spF K p_law_tables_right g_law_tables_right) := by
  refine fn_ok (k := 4) F sc_law_tables_right (by rintro ds ⟨i, j, k, rfl, _⟩; rfl) fun cdv A outer s H E hr ds hp => ?_
  obtain ⟨ns, ms, cs, rfl, hz, hz2, hz3⟩ := hp
  have hu : (A.deeper (PyProof.Rows.envOfC "_law_tables_right" (defScope s_law_tables_right) s.heap.objs.size f cdv)).units + 64 < cLine := hr.units
  have n1 := L.no "mine" (by simp)
  have n2 := L.no "theirs" (by simp)
  have n3 := L.no "table" (by simp)
  refine jss_cons (js_parR 8 9 (d1 := dLong Lo (M2.places ns ms).1 (M2.places ns ms).2 (tabF ns ms)) (je_call C_longest.callee hr (ja_cons (je_v 0 rfl) (ja_cons (je_v 1 rfl) ja_nil)) ⟨_, _, rfl, by omega, by omega⟩) (JUR.jer (jur_call C_shortest hr (ja_cons (je_v 0 rfl) (ja_cons (je_v 1 rfl) ja_nil)) ⟨_, _, rfl, by omega, by omega⟩)) (fun d2 hR => ?_) sc_law_tables_right.nd)
  obtain ⟨row, bmi, bth, rfl, hB⟩ := (r_shortest_iff hR).ex
  have hB := both_iff.mp hB
  have hok := longOk ns ms
  have htl := tabF_len ns ms
  generalize (M2.places ns ms).1 = mi at hok
  generalize (M2.places ns ms).2 = th at hok
  generalize tabF ns ms = tab at hok hB htl
  have hmi : mi.length ≤ 1000 := ris_len (by omega) hok.r1
  have hth : th.length ≤ 1000 := ris_len (by omega) hok.r2
  have hk0 : 0 ≤ M2.g tab ns.length ms.length := (hB.t.c _ _ (Nat.le_refl _) (Nat.le_refl _)).z
  have hk1 := hB.k
  have hrl : row.length ≤ 500 := by omega
  have hbmi := std_len hB.s1
  have hbth := std_len hB.s2
  have hrow : ∀ l, l ∈ tab → l.length ≤ 101 := fun l hl => by
    obtain ⟨i, hi, rfl⟩ := List.getElem_of_mem hl
    have := hB.t.m i (by omega)
    rw [List.getD_eq_getElem?_getD, List.getElem?_eq_getElem hi] at this
    have : tab[i].length = ms.length + 1 := this
    omega
  show JSs _ _ _ [some (.v .imm (.il ns)), some (.v .imm (.il ms)), some (.v .imm (.scr cs)), none, none, none, none, none, some (.v .frs (dLong Lo mi th tab)), some (.v .frs (dBoth Bo row bmi bth tab)), none, none, none, none, none, none]
  refine jss_cons (js_lcO 3 (own := [("_law_line", 10)]) (l' := .frs) (Tst := fun _ => true) (f := fun d => d) (ρd := fun d => (wipeE _ 10).set 10 (some (.v .frs d))) (ji_lst (je_fld (d := ils tab) (je_v 8 rfl) L.i.cl n3 rfl)) (fun d hd _ _ _ _ _ => jgb_name 10 sc_law_tables_right.nd) (fun _ _ _ _ _ _ _ => jts_nil) (fun d hd _ _ _ _ _ _ => by
    obtain ⟨l, _, rfl⟩ := List.mem_map.mp hd
    exact JOI.je (joi_list T.list (je_v 10 rfl))) ?_ sc_law_tables_right.nd (blkOk_by (N := N_tables_right) (sc := defScope s_law_tables_right) (by decide +kernel)) (by rw [List.length_map]; omega))
  rw [filter_tt, List.map_id']
  show JSs _ _ _ [some (.v .imm (.il ns)), some (.v .imm (.il ms)), some (.v .imm (.scr cs)), some (.own .frs (tab.map D.il)), none, none, none, none, some (.v .frs (dLong Lo mi th tab)), some (.v .frs (dBoth Bo row bmi bth tab)), none, none, none, none, none, none]
  have hm0 := Int.emod_nonneg (cs.sum / 7) (show (tab.length : Int) ≠ 0 by omega)
  have hm1 := Int.emod_lt_of_pos (cs.sum / 7) (show (0 : Int) < (tab.length : Int) by omega)
  obtain ⟨t, ht⟩ : ∃ t : Nat, cs.sum / 7 % (tab.length : Int) = (t : Int) := ⟨(cs.sum / 7 % (tab.length : Int)).toNat, by omega⟩
  have htt : t < tab.length := by omega
  refine jss_cons (js_set 4 (d := .int (t : Int)) (JE.eq (je_mod (je_div (je_sumS T.sum (je_v 2 rfl)) je_int ⟨by decide, by decide⟩) (je_lenD T.len (je_o 3 rfl)) (by rw [List.length_map]; omega)) (by rw [List.length_map, ht])) ?_ (by decide) sc_law_tables_right.nd)
  have hcl := cutL_length cs none (some 2)
  have hbl := bentF_len (cutL cs none (some 2)) (tab.getD t [])
  have hgt := hrow _ (getD_mem htt)
  refine jss_cons (js_setOx 3 (t := t) rfl (je_call (d := .il (bentF (tab.getD t []) (cutL cs none (some 2)))) C_law_bent.callee hr (ja_cons (je_ixO 3 (d := .il (tab.getD t [])) rfl (je_v 4 rfl) (by rw [List.length_map]; exact inR_at rfl htt) (gD_ils rfl htt)) (ja_cons (JOI.je (joi_cutS (je_v 2 rfl) jp_none (jp_some je_int))) ja_nil)) ⟨_, _, _, rfl, .inr rfl, by omega, by omega⟩) (je_v 4 rfl) (by rw [List.length_map]; exact htt) ?_)
  refine jss_keepO 3 rfl ?_
  rw [map_il_set]
  generalize hlines : tab.set t (bentF (tab.getD t []) (cutL cs none (some 2))) = lines
  have hll : lines.length = ns.length + 1 := by rw [← hlines, List.length_set]; exact htl
  have hlr : ∀ l, l ∈ lines → l.length ≤ 2000 := fun l hl => by
    rw [← hlines] at hl
    rcases List.mem_or_eq_of_mem_set hl with h | h
    · have := hrow l h; omega
    · rw [h]; omega
  show JSs _ _ _ [some (.v .imm (.il ns)), some (.v .imm (.il ms)), some (.v .imm (.scr cs)), some (.v .frs (ils lines)), some (.v .frs (.int (t : Int))), none, none, none, some (.v .frs (dLong Lo mi th tab)), some (.v .frs (dBoth Bo row bmi bth tab)), none, none, none, none, none, none]
  refine jss_cons (js_lcV 5 (own := [("_law_line", 10)]) (l' := .frs) (Tst := fun _ => true) (f := incF) (ρd := fun d => (wipeE _ 10).set 10 (some (.v .frs d))) (ji_lst (je_fld (d := ils tab) (je_v 8 rfl) L.i.cl n3 rfl)) (fun d hd _ _ _ _ _ => jgb_name 10 sc_law_tables_right.nd) (fun _ _ _ _ _ _ _ => jts_nil) (fun d hd _ _ _ _ _ _ => by
    obtain ⟨l, hl, rfl⟩ := List.mem_map.mp hd
    have := hrow l hl
    exact JOI.je (joi_mapI (x := "_law_number") (n := 15) (f := fun k => k + 1) (ji_list (je_v 10 rfl)) (fun _ _ _ _ _ _ => jgb_name 15 sc_law_tables_right.nd) (fun k hk _ _ _ _ _ => (je_add (je_v 15 rfl) je_int)) sc_law_tables_right.nd (blkOk_by (N := N_tables_right) (sc := { kind := .function, names := [(".0", .local), ("_law_line", .local)], isGenerator := false, isCoroutine := false }) (by decide +kernel)) (by omega))) ?_ sc_law_tables_right.nd (blkOk_by (N := N_tables_right) (sc := defScope s_law_tables_right) (by decide +kernel)) (by rw [List.length_map]; omega))
  rw [incF_map]
  have hgl : (tab.map fun l => l.map fun k => k + 1).length = ns.length + 1 := by rw [List.length_map]; exact htl
  have hgr : ∀ l, l ∈ (tab.map fun l => l.map fun k => k + 1) → l.length ≤ 2000 := fun l hl => by
    obtain ⟨l0, h0, rfl⟩ := List.mem_map.mp hl
    have := hrow l0 h0
    rw [List.length_map]
    omega
  generalize (tab.map fun l => l.map fun k => k + 1) = gre at hgl hgr
  have c1 := cutL_length mi (some 1) none
  have c2 := cutL_length th (some 1) none
  have hbm := bentF_len cs mi
  refine jss_cons (js_setO 6 (jo_lst (l := .frs) (ja_cons (je_tup (l := .frs) (ja_cons (je_fld (d := .il mi) (je_v 8 rfl) L.i.cl n1 rfl) (ja_cons (je_fld (d := .il th) (je_v 8 rfl) L.i.cl n2 rfl) ja_nil))) (ja_cons (je_tup (l := .frs) (ja_cons (JOI.je (joi_cut (je_fld (d := .il mi) (je_v 8 rfl) L.i.cl n1 rfl) (jp_some je_int) jp_none)) (ja_cons (JOI.je (joi_cut (je_fld (d := .il th) (je_v 8 rfl) L.i.cl n2 rfl) (jp_some je_int) jp_none)) ja_nil))) ja_nil))) ?_ (by decide) sc_law_tables_right.nd)
  refine jss_cons (js_app 6 rfl (je_tup (l := .frs) (ja_cons (je_call (d := .il (bentF mi cs)) C_law_bent.callee hr (ja_cons (je_fld (d := .il mi) (je_v 8 rfl) L.i.cl n1 rfl) (ja_cons (je_v 2 rfl) ja_nil)) ⟨_, _, _, rfl, .inl rfl, by omega, by omega⟩) (ja_cons (je_fld (d := .il th) (je_v 8 rfl) L.i.cl n2 rfl) ja_nil))) ?_ (of_decide_eq_true rfl))
  refine jss_keepO 6 rfl ?_
  obtain ⟨prs0, hprs, hprl⟩ : ∃ q : List (List Int × List Int), ([D.tup [.il mi, .il th], .tup [.il (cutL mi (some 1) none), .il (cutL th (some 1) none)]] ++ [.tup [.il (bentF mi cs), .il th]]) = q.map (fun l => D.tup [.il l.1, .il l.2]) ∧ ∀ l, l ∈ q → l.1.length ≤ 2000 ∧ l.2.length ≤ 2000 :=
    ⟨[(mi, th), (cutL mi (some 1) none, cutL th (some 1) none), (bentF mi cs, th)], rfl, fun l hl => by
      simp only [List.mem_cons, List.not_mem_nil, or_false] at hl
      rcases hl with rfl | rfl | rfl
      · exact ⟨by show mi.length ≤ _; omega, by show th.length ≤ _; omega⟩
      · exact ⟨by show (cutL mi (some 1) none).length ≤ _; omega, by show (cutL th (some 1) none).length ≤ _; omega⟩
      · exact ⟨by show (bentF mi cs).length ≤ _; omega, by show th.length ≤ _; omega⟩⟩
  rw [hprs]
  show JSs _ _ _ [some (.v .imm (.il ns)), some (.v .imm (.il ms)), some (.v .imm (.scr cs)), some (.v .frs (ils lines)), some (.v .frs (.int (t : Int))), some (.v .frs (ils gre)), some (.v .frs (.lst (prs0.map (fun l => D.tup [.il l.1, .il l.2])))), none, some (.v .frs (dLong Lo mi th tab)), some (.v .frs (dBoth Bo row bmi bth tab)), none, none, none, none, none, none]
  have c3 := cutL_length tab (some 1) none
  refine jss_cons (js_for (fun rest ρ => ∃ (r : List (List (List Int))) (x7 x10 x11 x12 x13 x14 : Option Lf.E), (∀ u, u ∈ r → u.length ≤ 900 ∧ ∀ l, l ∈ u → l.length ≤ 2000) ∧ rest = r.map ils ∧ ρ = [some (.v .imm (.il ns)), some (.v .imm (.il ms)), some (.v .imm (.scr cs)), some (.v .frs (ils lines)), some (.v .frs (.int (t : Int))), some (.v .frs (ils gre)), some (.v .frs (.lst (prs0.map (fun l => D.tup [.il l.1, .il l.2])))), x7, some (.v .frs (dLong Lo mi th tab)), some (.v .frs (dBoth Bo row bmi bth tab)), x10, x11, x12, x13, x14, none])
    (ji_lst (JO.je (jo_lst (l := .frs) (ja_cons (je_fld (d := ils tab) (je_v 8 rfl) L.i.cl n3 rfl) (ja_cons (je_v 3 rfl) (ja_cons (je_v 5 rfl) (ja_cons (JE.eq (JO.je (jo_cut (je_fld (d := ils tab) (je_v 8 rfl) L.i.cl n3 rfl) (jp_some je_int) jp_none)) (ils_cut tab (some 1) none)) (ja_cons (JE.eq (JO.je (jo_cat (l := .frs) (je_fld (d := ils tab) (je_v 8 rfl) L.i.cl n3 rfl) (JO.je (jo_lst (l := .frs) (ja_cons (JOI.je joi_nil) ja_nil))) (hz := by rw [List.length_map]; show _ + 1 ≤ _; omega))) (ils_snoc tab [])) (ja_cons (JO.je (jo_lst (l := .frs) ja_nil)) ja_nil)))))))))
    ⟨[tab, lines, gre, cutL tab (some 1) none, tab ++ [[]], []], none, none, none, none, none, none, fun u hu' => by
      simp only [List.mem_cons, List.not_mem_nil, or_false] at hu'
      rcases hu' with rfl | rfl | rfl | rfl | rfl | rfl
      · exact ⟨by omega, fun l hl => by have := hrow l hl; omega⟩
      · exact ⟨by omega, hlr⟩
      · exact ⟨by omega, hgr⟩
      · exact ⟨by omega, fun l hl => by have := hrow l (mem_cutL hl); omega⟩
      · refine ⟨by rw [List.length_append, List.length_singleton]; omega, fun l hl => ?_⟩
        rcases List.mem_append.mp hl with hl | hl
        · have := hrow l hl; omega
        · rw [List.mem_singleton] at hl
          subst hl
          exact Nat.zero_le _
      · exact ⟨Nat.zero_le _, fun l hl => by cases hl⟩, rfl, rfl⟩ (fun d rest ρ' hv => ?_) (fun ρ' hv => ?_))
  · obtain ⟨r, x7, x10, x11, x12, x13, x14, hr', hrest, rfl⟩ := hv
    cases r with
    | nil => cases hrest
    | cons u r =>
      obtain ⟨rfl, rfl⟩ := List.cons.inj hrest
      obtain ⟨hul, hur⟩ := hr' u (List.mem_cons_self ..)
      refine ⟨_, jg_name 7 sc_law_tables_right.nd, ?_⟩
      refine jss_cons (js_for (fun rest ρ => ∃ (q : List (List Int × List Int)) (x10 x11 x12 x13 x14 : Option Lf.E), (∀ l, l ∈ q → l.1.length ≤ 2000 ∧ l.2.length ≤ 2000) ∧ rest = q.map (fun l => D.tup [.il l.1, .il l.2]) ∧ ρ = [some (.v .imm (.il ns)), some (.v .imm (.il ms)), some (.v .imm (.scr cs)), some (.v .frs (ils lines)), some (.v .frs (.int (t : Int))), some (.v .frs (ils gre)), some (.v .frs (.lst (prs0.map (fun l => D.tup [.il l.1, .il l.2])))), some (.v .frs (ils u)), some (.v .frs (dLong Lo mi th tab)), some (.v .frs (dBoth Bo row bmi bth tab)), x10, x11, x12, x13, x14, none])
        (ji_lst (je_v 6 rfl)) ⟨prs0, _, _, _, _, _, hprl, rfl, rfl⟩ (fun d rest ρ' hv => ?_) (fun ρ' hv => ?_))
      · obtain ⟨q, x10, x11, x12, x13, x14, hq', hqrest, rfl⟩ := hv
        cases q with
        | nil => cases hqrest
        | cons mt q =>
          obtain ⟨rfl, rfl⟩ := List.cons.inj hqrest
          obtain ⟨ami, ath⟩ := mt
          obtain ⟨hami, hath⟩ := hq' (ami, ath) (List.mem_cons_self ..)
          have hami : ami.length ≤ 2000 := hami
          have hath : ath.length ≤ 2000 := hath
          refine ⟨_, jg_pair 11 12 sc_law_tables_right.nd, ?_⟩
          refine jss_cons (js_setU 13 (d := .lst [.il ami, .il ath, ils u]) (ju_lst (l := .frs) (jau_cons (JOI.ju (joi_list T.list (je_v 11 rfl))) (jau_cons (JOI.ju (joi_list T.list (je_v 12 rfl))) (jau_cons (JU.eq (d1 := ils u) (ju_lc (own := [("_law_line", 10)]) (l' := .frs) (Tst := fun _ => true) (f := fun d => d) (ρd := fun d => (wipeE _ 10).set 10 (some (.v .frs d))) (ji_lst (je_v 7 rfl)) (fun d hd _ _ _ _ _ => jgb_name 10 sc_law_tables_right.nd) (fun _ _ _ _ _ _ _ => jts_nil) (fun d hd _ _ _ _ _ _ => by
            obtain ⟨l, _, rfl⟩ := List.mem_map.mp hd
            exact JOI.ju (joi_list T.list (je_v 10 rfl))) sc_law_tables_right.nd (blkOk_by (N := N_tables_right) (sc := defScope s_law_tables_right) (by decide +kernel)) (by rw [List.length_map]; omega)) (by rw [filter_t4, List.map_id']; rfl)) jau_nil)))) (fun g eg og => ?_) (by decide) sc_law_tables_right.nd)
          obtain ⟨b, gs, rfl, eg0, og0⟩ := okG_lst eg og
          obtain ⟨g0, r0, rfl, eg1, og1, eg2, og2⟩ := okGs_cons eg0 og0
          obtain ⟨b0, rfl⟩ := okG_il eg1 og1
          obtain ⟨g1, r1, rfl, eg3, og3, eg4, og4⟩ := okGs_cons eg2 og2
          obtain ⟨b1, rfl⟩ := okG_il eg3 og3
          obtain ⟨g2, r2, rfl, eg5, og5, eg6, og6⟩ := okGs_cons eg4 og4
          obtain ⟨b2, rs, rfl, ers, ors⟩ := okG_lst eg5 og5
          have := okGs_nil eg6
          subst this
          obtain ⟨hroots, _, _⟩ := rowE_spec (q := 2) rs u 0 ers ors
          have happs := shT_apps (b := b) (b0 := b0) (b1 := b1) (b2 := b2) (x := ami) (y := ath) ers ors hami hath hur
          have hrsl := erases_len ers
          show JSs _ _ _ [some (.v .imm (.il ns)), some (.v .imm (.il ms)), some (.v .imm (.scr cs)), some (.v .frs (ils lines)), some (.v .frs (.int (t : Int))), some (.v .frs (ils gre)), some (.v .frs (.lst (prs0.map (fun l => D.tup [.il l.1, .il l.2])))), some (.v .frs (ils u)), some (.v .frs (dLong Lo mi th tab)), some (.v .frs (dBoth Bo row bmi bth tab)), x10, some (.v .frs (.il ami)), some (.v .frs (.il ath)), some (.tr .frs (shT b b0 b1 b2 ami ath rs)), x14, none]
          have er0 : erase (shT b b0 b1 b2 ami ath rs) = .lst [.il ami, .il ath, ils u] := eg
          refine jss_cons (js_set 14 (JU.je (ju_makeB (d := dLong Lo ami ath u) C_Longest hr (ja_cons (je_ixD (d := .il ami) (je_tr 13 rfl er0) je_int ⟨of_decide_eq_true rfl, of_decide_eq_true rfl⟩) (ja_cons (je_ixD (d := .il ath) (je_tr 13 rfl er0) je_int ⟨of_decide_eq_true rfl, of_decide_eq_true rfl⟩) (ja_cons (je_ixD (d := ils u) (je_tr 13 rfl er0) je_int ⟨of_decide_eq_true rfl, of_decide_eq_true rfl⟩) ja_nil))) ⟨_, _, _, rfl, by omega⟩ (by
            show (bareDs (u.map D.il) && true) = true
            rw [bare_ils]
            rfl))) ?_ (by decide) sc_law_tables_right.nd)
          refine jss_cons (js_for (fun rest ρ => ∃ (es : List (Addr × List Nat × List Int)) (t' : G) (x10 : Option Lf.E), rest = es.map (fun e => D.ptr e.1) ∧ Apps t' es ∧ (∃ x y rs', t' = shT b b0 b1 b2 x y rs' ∧ rs'.length = u.length) ∧ ρ = [some (.v .imm (.il ns)), some (.v .imm (.il ms)), some (.v .imm (.scr cs)), some (.v .frs (ils lines)), some (.v .frs (.int (t : Int))), some (.v .frs (ils gre)), some (.v .frs (.lst (prs0.map (fun l => D.tup [.il l.1, .il l.2])))), some (.v .frs (ils u)), some (.v .frs (dLong Lo mi th tab)), some (.v .frs (dBoth Bo row bmi bth tab)), x10, some (.v .frs (.il ami)), some (.v .frs (.il ath)), some (.tr .frs t'), some (.v .frs (dLong Lo ami ath u)), none])
            (ji_lst (JO.je (jo_catF (ds := [.ptr b0, .ptr b1]) (fs := rs.map root) (JO.je (jo_cutF (ds := [.ptr b0, .ptr b1, .ptr b2]) (je_view 13 [] (je_trR 13 rfl) rfl rfl) jp_none (jp_some je_int) rfl)) (je_view 13 [2] (je_ixD (d := .ptr b2) (je_view 13 [] (je_trR 13 rfl) rfl rfl) je_int ⟨of_decide_eq_true rfl, of_decide_eq_true rfl⟩) rfl rfl) rfl (by rw [hroots]; exact roots_scal _) (by rw [List.length_map]; show 2 + _ ≤ _; omega))))
            ⟨(b0, [0], ami) :: (b1, [1], ath) :: rowE 2 0 rs, _, _, by rw [hroots]; rfl, happs, ⟨_, _, _, rfl, hrsl⟩, rfl⟩ (fun d rest ρ' hv => ?_) (fun ρ' hv => ?_))
          · obtain ⟨es, t', x10, hes, hap, hsh, rfl⟩ := hv
            cases es with
            | nil => cases hes
            | cons e es =>
              obtain ⟨rfl, rfl⟩ := List.cons.inj hes
              obtain ⟨h1, h2⟩ := hap.hat e (List.mem_cons_self ..)
              refine ⟨_, jg_name 10 sc_law_tables_right.nd, ?_⟩
              refine jss_one (js_appPI 13 e.2.1 (r := e.1) (je_v 10 rfl) rfl h1 je_int ?_ (by omega))
              exact ⟨es, _, _, rfl, hap.step, shT_put hsh h1, rfl⟩
          obtain ⟨es, t', x10', _, _, ⟨x', y', rs', rfl, hrs'⟩, rfl⟩ := hv
          refine jss_cons (js_appPD 13 [2] (r := b2) (gs := rs') (je_ixD (d := .ptr b2) (je_view 13 [] (je_trR 13 rfl) rfl rfl) je_int ⟨of_decide_eq_true rfl, of_decide_eq_true rfl⟩) rfl rfl (JOI.je (joi_lst (l := .frs) (ns := [0]) (ja_cons je_int ja_nil))) ?_ (by omega))
          have hly : lay (.lst [.il ami, .il ath, ils u]) = true := by
            show (lay (ils u) && true) = true
            rw [lay_ils]
            rfl
          have hdp : dep (.lst [.il ami, .il ath, ils u]) ≤ 64 := by
            show Nat.max 2 (Nat.max 2 (Nat.max (dep (ils u)) 0)) + 1 ≤ 64
            have := dep_ils2 u
            generalize dep (ils u) = z at this
            simp only [Nat.max_def]
            repeat' split
            all_goals omega
          refine jss_cons (js_if (jt_c (jc_neG hu (d1 := .lst [.il ami, .il ath, ils u]) (d2 := .lst [.il ami, .il ath, ils u]) (JO.je (jo_lst (l := .frs) (ja_cons (je_fld (d := .il ami) (je_v 14 rfl) L.i.cl n1 rfl) (ja_cons (je_fld (d := .il ath) (je_v 14 rfl) L.i.cl n2 rfl) (ja_cons (je_fld (d := ils u) (je_v 14 rfl) L.i.cl n3 rfl) ja_nil))))) (JO.je (jo_lst (l := .frs) (ja_cons (je_v 11 rfl) (ja_cons (je_v 12 rfl) (ja_cons (je_v 7 rfl) ja_nil))))) hly hly hdp hdp)) (fun c => ?_) (fun c => ?_))
          · rw [eqD_refl hly] at c
            cases c
          refine jss_nil ?_
          refine jss_one (js_if (jt_not (jt_v (v := true) (je_call C_law_says hr (ja_cons (je_meth CM hr (je_v 14 rfl) rfl (ja_cons (je_v 0 rfl) (ja_cons (je_v 1 rfl) ja_nil)) ⟨_, _, _, _, _, rfl, by omega, by omega⟩ (g_long Lo ami ath u ns ms)) (ja_cons (je_call C_law_long hr (ja_cons (je_v 0 rfl) (ja_cons (je_v 1 rfl) (ja_cons (je_v 11 rfl) (ja_cons (je_v 12 rfl) (ja_cons (je_v 7 rfl) ja_nil))))) ⟨_, _, _, _, _, rfl, by omega, by omega, by omega⟩ (g_llong ami ath u ns ms)) ja_nil)) ⟨_, _, rfl⟩ (says_same (dec (LongOk ns ms ami ath u)))))) (fun c => ?_) (fun c => ?_))
          · cases c
          exact jss_nil ⟨q, _, _, _, _, _, fun l hl => hq' l (List.mem_cons_of_mem _ hl), rfl, rfl⟩
      obtain ⟨q, x10', x11', x12', x13', x14', _, _, rfl⟩ := hv
      refine jss_one (js_if (jt_not (jt_v (v := true) (je_call C_law_rows_right hr (ja_cons (je_v 0 rfl) (ja_cons (je_v 1 rfl) (ja_cons (je_v 9 rfl) (ja_cons (je_v 7 rfl) ja_nil)))) ⟨_, _, _, _, _, _, _, rfl, by omega, by omega, by omega, by omega, by omega, by omega, hur⟩))) (fun c => ?_) (fun c => ?_))
      · cases c
      exact jss_nil ⟨r, _, _, _, _, _, _, fun l hl => hr' l (List.mem_cons_of_mem _ hl), rfl, rfl⟩
  obtain ⟨r, x7, x10, x11, x12, x13, x14, _, _, rfl⟩ := hv
  exact jss_one (js_ret je_bl rfl)

end
end Kc

set_option Elab.async false
set_option linter.all false
set_option maxRecDepth 100000
set_option maxHeartbeats 2000000
set_option autoImplicit false
namespace Kc
open PySem L2 Lf M1 M2
section
variable {P : Program} {w : World} {K : PySem.W.Frag} {mg : Str → Option Value} {base : Heap}
open M3 M4
variable {An Bo Le Lo Mi Mx Sh Un : Addr}
abbrev N_missing_right : List Str := ["_law_row_here", "_law_script", "_law_kinds", "_law_found", "_law_words", "_law_cuts", "_law_word", "_law_handed", "_law_answer", "_law_cell", "_law_cut"]
theorem sc_law_missing_right : FnScope N_missing_right ["_law_row_here", "_law_script"] (defScope s_law_missing_right) := ⟨rfl, rfl, rfl, by decide +kernel, rfl, by decide +kernel, by decide +kernel⟩
def p_law_missing_right (ds : List D) : Prop := ∃ (row cs : List Int), ds = [.il row, .scr cs] ∧ row.length ≤ 63 ∧ cs.length ≤ 63
def g_law_missing_right (_ : List D) : D := .bl true
theorem ok_law_missing_right {f : Addr} {fd : FuncData} (F : Fun K "_law_missing_right" "_law_missing_right" s_law_missing_right f fd) (T : Blt mg) (L : Kl K Mi ["cuts", "word"])
    (CM : CalleeM P w K mg base 2 Mi "shows" (p_Missing_shows Mi) g_Missing_shows) (C_Missing : MakerU P w K mg base 1 "Missing" Mi p_Missing_init (g_Missing_init Mi))
    (C_missing : CalleeUR P w K mg base 3 "missing" p_missing (r_missing Mi))
    (C_law_bent : CalleeU P w K mg base 1 "_law_bent" p_law_bent g_law_bent) (C_law_says : Callee P w K mg base 1 "_law_says" p_law_says g_law_says) (C_law_missed : Callee P w K mg base 2 "_law_missed" p_law_missed g_law_missed) :
    FnOk P w K mg base CX0 4 f fd ["_law_row_here", "_law_script"] (spF K p_law_missing_right g_law_missing_right) := by
  refine fn_ok (k := 3) F sc_law_missing_right (by rintro ds ⟨i, j, rfl, _⟩; rfl) fun cdv A outer s H E hr ds hp => ?_
  obtain ⟨row, cs, rfl, hz, hz2⟩ := hp
  have hu : (A.deeper (PyProof.Rows.envOfC "_law_missing_right" (defScope s_law_missing_right) s.heap.objs.size f cdv)).units + 64 < cLine := hr.units
  have n0 := L.no "cuts" (by simp)
  have n1 := L.no "word" (by simp)
  have m0 := Int.emod_nonneg cs.sum (show (4 : Int) ≠ 0 by decide)
  refine jss_cons (js_forI (fun rest ρ => ∃ (x2 x3 x4 x5 x6 x7 x8 : Option Lf.E), (∀ k, k ∈ rest → 1 ≤ k) ∧ ρ = [some (.v .imm (.il row)), some (.v .imm (.scr cs)), x2, x3, x4, x5, x6, x7, x8, none, none])
    (ji_list (JOI.je (joi_lst (l := .frs) (ns := [2, 3, 1 + cs.sum % 4]) (ja_cons je_int (ja_cons je_int (ja_cons (je_add je_int (je_mod (je_sumS T.sum (je_v 1 rfl)) je_int (by decide))) ja_nil))))))
    ⟨none, none, none, none, none, none, none, fun k hk => by
      simp only [List.mem_cons, List.not_mem_nil, or_false] at hk
      rcases hk with rfl | rfl | rfl <;> omega, rfl⟩ (fun kk rest ρ' hv => ?_) (fun ρ' hv => ?_))
  · obtain ⟨x2, x3, x4, x5, x6, x7, x8, hr', rfl⟩ := hv
    have hk := hr' kk (List.mem_cons_self ..)
    refine ⟨_, jg_name 2 sc_law_missing_right.nd, ?_⟩
    refine jss_cons (js_setR 3 (JUR.jer (jur_call C_missing hr (ja_cons (je_v 0 rfl) (ja_cons (je_v 2 rfl) ja_nil)) ⟨_, _, rfl, by omega, hk⟩)) (fun d hR => ?_) sc_law_missing_right.nd)
    obtain ⟨cuts, word, rfl, hok⟩ := (r_missing_iff hR).ex
    have hc1 : cutsF row kk 0 cuts = true := by
      unfold misF at hok
      rw [Bool.and_eq_true] at hok
      exact hok.1
    have hcl := cuts_len cuts 0 (Int.le_refl _) (by omega) hc1
    have hwl : (word.length : Int) = (cuts.length : Int) + 1 := by
      unfold misF at hok
      rw [Bool.and_eq_true, Bool.and_eq_true, decide_eq_true_eq] at hok
      exact hok.2.1
    show JSs _ _ _ [some (.v .imm (.il row)), some (.v .imm (.scr cs)), some (.v .frs (.int kk)), some (.v .frs (dMis Mi cuts word)), x4, x5, x6, x7, x8, none, none]
    have hl1 := cutL_length cs none (some ((cuts.length : Int) + 1))
    have hl2 := bentF_len cs word
    have hl3 := bentF_len cs cuts
    have hl4 := cutL_length cuts none (some (-1))
    refine jss_cons (js_set 4 (JO.je (jo_lst (l := .frs) (ja_cons (je_fld (d := .il word) (je_v 3 rfl) L.i.cl n1 rfl) (ja_cons (JOI.je (joi_mapI (x := "_law_cell") (n := 9) (f := fun c => c % 3) (ji_list (JOI.je (joi_cutS (je_v 1 rfl) jp_none (jp_some (je_add (je_len T.len (je_fld (d := .il cuts) (je_v 3 rfl) L.i.cl n0 rfl)) je_int))))) (fun _ _ _ _ _ _ => jgb_name 9 sc_law_missing_right.nd) (fun k hk _ _ _ _ _ => (je_mod (je_v 9 rfl) je_int (by decide))) sc_law_missing_right.nd (blkOk_by (N := N_missing_right) (sc := defScope s_law_missing_right) (by decide +kernel)) (by omega))) (ja_cons (je_call (d := .il (bentF word cs)) C_law_bent.callee hr (ja_cons (je_fld (d := .il word) (je_v 3 rfl) L.i.cl n1 rfl) (ja_cons (je_v 1 rfl) ja_nil)) ⟨_, _, _, rfl, .inl rfl, by omega, by omega⟩) ja_nil))))) ?_ (by decide) sc_law_missing_right.nd)
    obtain ⟨wl, hwl0, hwl1⟩ : ∃ wl : List (List Int), [D.il word, .il ((cutL cs none (some ((cuts.length : Int) + 1))).map fun c => c % 3), .il (bentF word cs)] = wl.map D.il ∧ ∀ l, l ∈ wl → l.length ≤ 1000 :=
      ⟨[word, (cutL cs none (some ((cuts.length : Int) + 1))).map fun c => c % 3, bentF word cs], rfl, fun l hl => by
        simp only [List.mem_cons, List.not_mem_nil, or_false] at hl
        rcases hl with rfl | rfl | rfl
        · omega
        · rw [List.length_map]; omega
        · omega⟩
    rw [hwl0]
    show JSs _ _ _ [some (.v .imm (.il row)), some (.v .imm (.scr cs)), some (.v .frs (.int kk)), some (.v .frs (dMis Mi cuts word)), some (.v .frs (ils wl)), x5, x6, x7, x8, none, none]
    refine jss_one (js_for (fun rest ρ => ∃ (r : List (List Int)) (x5 x6 x7 x8 : Option Lf.E), (∀ l, l ∈ r → l.length ≤ 1000) ∧ rest = r.map D.il ∧ ρ = [some (.v .imm (.il row)), some (.v .imm (.scr cs)), some (.v .frs (.int kk)), some (.v .frs (dMis Mi cuts word)), some (.v .frs (ils wl)), x5, x6, x7, x8, none, none])
      (ji_lst (JO.je (jo_lst (l := .frs) (ja_cons (je_fld (d := .il cuts) (je_v 3 rfl) L.i.cl n0 rfl) (ja_cons (JOI.je (joi_mapI (x := "_law_cut") (n := 10) (f := fun c => c + 1) (ji_list (je_fld (d := .il cuts) (je_v 3 rfl) L.i.cl n0 rfl)) (fun _ _ _ _ _ _ => jgb_name 10 sc_law_missing_right.nd) (fun k hk _ _ _ _ _ => (je_add (je_v 10 rfl) je_int)) sc_law_missing_right.nd (blkOk_by (N := N_missing_right) (sc := defScope s_law_missing_right) (by decide +kernel)) (by omega))) (ja_cons (je_call (d := .il (bentF cuts cs)) C_law_bent.callee hr (ja_cons (je_fld (d := .il cuts) (je_v 3 rfl) L.i.cl n0 rfl) (ja_cons (je_v 1 rfl) ja_nil)) ⟨_, _, _, rfl, .inl rfl, by omega, by omega⟩) (ja_cons (JOI.je (joi_cut (je_fld (d := .il cuts) (je_v 3 rfl) L.i.cl n0 rfl) jp_none (jp_some (je_neg je_int)))) ja_nil)))))))
      ⟨[cuts, cuts.map fun c => c + 1, bentF cuts cs, cutL cuts none (some (-1))], _, _, _, _, fun l hl => by
        simp only [List.mem_cons, List.not_mem_nil, or_false] at hl
        rcases hl with rfl | rfl | rfl | rfl
        · omega
        · rw [List.length_map]; omega
        · omega
        · omega, rfl, rfl⟩ (fun d rest ρ' hv => ?_) (fun ρ' hv => ?_))
    · obtain ⟨r, x5, x6, x7, x8, hrr, hrest, rfl⟩ := hv
      cases r with
      | nil => cases hrest
      | cons ac r =>
        obtain ⟨rfl, rfl⟩ := List.cons.inj hrest
        have hac := hrr ac (List.mem_cons_self ..)
        refine ⟨_, jg_name 5 sc_law_missing_right.nd, ?_⟩
        refine jss_one (js_for (fun rest ρ => ∃ (q : List (List Int)) (x6 x7 x8 : Option Lf.E), (∀ l, l ∈ q → l.length ≤ 1000) ∧ rest = q.map D.il ∧ ρ = [some (.v .imm (.il row)), some (.v .imm (.scr cs)), some (.v .frs (.int kk)), some (.v .frs (dMis Mi cuts word)), some (.v .frs (ils wl)), some (.v .frs (.il ac)), x6, x7, x8, none, none])
          (ji_lst (je_v 4 rfl)) ⟨wl, _, _, _, hwl1, rfl, rfl⟩ (fun d rest ρ' hv => ?_) (fun ρ' hv => ?_))
        · obtain ⟨q, x6, x7, x8, hqq, hqrest, rfl⟩ := hv
          cases q with
          | nil => cases hqrest
          | cons aw q =>
            obtain ⟨rfl, rfl⟩ := List.cons.inj hqrest
            have haw := hqq aw (List.mem_cons_self ..)
            refine ⟨_, jg_name 6 sc_law_missing_right.nd, ?_⟩
            refine jss_cons (js_setU 7 (d := .lst [.il ac, .il aw]) (ju_lst (l := .frs) (jau_cons (JOI.ju (joi_list T.list (je_v 5 rfl))) (jau_cons (JOI.ju (joi_list T.list (je_v 6 rfl))) jau_nil))) (fun g eg og => ?_) (by decide) sc_law_missing_right.nd)
            obtain ⟨b, gs, rfl, eg0, og0⟩ := okG_lst eg og
            obtain ⟨g0, r0, rfl, eg1, og1, eg2, og2⟩ := okGs_cons eg0 og0
            obtain ⟨b0, rfl⟩ := okG_il eg1 og1
            obtain ⟨g1, r1, rfl, eg3, og3, eg4, og4⟩ := okGs_cons eg2 og2
            obtain ⟨b1, rfl⟩ := okG_il eg3 og3
            have := okGs_nil eg4
            subst this
            show JSs _ _ _ [some (.v .imm (.il row)), some (.v .imm (.scr cs)), some (.v .frs (.int kk)), some (.v .frs (dMis Mi cuts word)), some (.v .frs (ils wl)), some (.v .frs (.il ac)), some (.v .frs (.il aw)), some (.tr .frs (.ls b [.li b0 ac, .li b1 aw])), x8, none, none]
            refine jss_cons (js_set 8 (JU.je (ju_makeB (d := dMis Mi ac aw) C_Missing hr (ja_cons (je_ixD (d := .il ac) (je_tr 7 rfl eg) je_int ⟨of_decide_eq_true rfl, of_decide_eq_true rfl⟩) (ja_cons (je_ixD (d := .il aw) (je_tr 7 rfl eg) je_int ⟨of_decide_eq_true rfl, of_decide_eq_true rfl⟩) ja_nil)) ⟨_, _, rfl⟩ rfl)) ?_ (by decide) sc_law_missing_right.nd)
            refine jss_cons (js_appPI 7 [0] (r := b0) (ns := ac) (je_ixD (d := .ptr b0) (je_view 7 [] (je_trR 7 rfl) rfl rfl) je_int ⟨of_decide_eq_true rfl, of_decide_eq_true rfl⟩) rfl rfl je_int ?_ (by omega))
            show JSs _ _ _ [some (.v .imm (.il row)), some (.v .imm (.scr cs)), some (.v .frs (.int kk)), some (.v .frs (dMis Mi cuts word)), some (.v .frs (ils wl)), some (.v .frs (.il ac)), some (.v .frs (.il aw)), some (.tr .frs (.ls b [.li b0 (ac ++ [0]), .li b1 aw])), some (.v .frs (dMis Mi ac aw)), none, none]
            refine jss_cons (js_appPI 7 [1] (r := b1) (ns := aw) (je_ixD (d := .ptr b1) (je_view 7 [] (je_trR 7 rfl) rfl rfl) je_int ⟨of_decide_eq_true rfl, of_decide_eq_true rfl⟩) rfl rfl je_int ?_ (by omega))
            show JSs _ _ _ [some (.v .imm (.il row)), some (.v .imm (.scr cs)), some (.v .frs (.int kk)), some (.v .frs (dMis Mi cuts word)), some (.v .frs (ils wl)), some (.v .frs (.il ac)), some (.v .frs (.il aw)), some (.tr .frs (.ls b [.li b0 (ac ++ [0]), .li b1 (aw ++ [0])])), some (.v .frs (dMis Mi ac aw)), none, none]
            refine jss_cons (js_if (jt_c (jc_neG hu (d1 := .lst [.il ac, .il aw]) (d2 := .lst [.il ac, .il aw]) (JO.je (jo_lst (l := .frs) (ja_cons (je_fld (d := .il ac) (je_v 8 rfl) L.i.cl n0 rfl) (ja_cons (je_fld (d := .il aw) (je_v 8 rfl) L.i.cl n1 rfl) ja_nil)))) (JO.je (jo_lst (l := .frs) (ja_cons (je_v 5 rfl) (ja_cons (je_v 6 rfl) ja_nil)))))) (fun c => ?_) (fun c => ?_))
            · rw [eqD_refl rfl] at c
              cases c
            refine jss_nil ?_
            refine jss_one (js_if (jt_not (jt_v (v := true) (je_call C_law_says hr (ja_cons (je_meth CM hr (je_v 8 rfl) rfl (ja_cons (je_v 0 rfl) (ja_cons (je_v 2 rfl) ja_nil)) ⟨_, _, _, _, rfl, by omega, by omega, haw⟩) (ja_cons (je_call C_law_missed hr (ja_cons (je_v 0 rfl) (ja_cons (je_v 2 rfl) (ja_cons (je_v 5 rfl) (ja_cons (je_v 6 rfl) ja_nil)))) ⟨_, _, _, _, rfl, hz, by omega, haw, hac⟩) ja_nil)) ⟨_, _, rfl⟩ (says_same (misF row kk ac aw))))) (fun c => ?_) (fun c => ?_))
            · cases c
            exact jss_nil ⟨q, _, _, _, fun l hl => hqq l (List.mem_cons_of_mem _ hl), rfl, rfl⟩
        obtain ⟨q, x6', x7', x8', _, _, rfl⟩ := hv
        exact ⟨r, _, _, _, _, fun l hl => hrr l (List.mem_cons_of_mem _ hl), rfl, rfl⟩
    obtain ⟨r, x5', x6', x7', x8', _, _, rfl⟩ := hv
    exact ⟨_, _, _, _, _, _, _, fun k hk => hr' k (List.mem_cons_of_mem _ hk), rfl⟩
  obtain ⟨x2, x3, x4, x5, x6, x7, x8, _, rfl⟩ := hv
  exact jss_one (js_ret je_bl rfl)

end
end Kc

set_option Elab.async false
set_option linter.all false
set_option maxRecDepth 100000
set_option maxHeartbeats 2000000
set_option autoImplicit false
namespace Kc
open PySem L2 Lf M1 M2
section
variable {P : Program} {w : World} {K : PySem.W.Frag} {mg : Str → Option Value} {base : Heap}
open M3 M4
variable {An Bo Le Lo Mi Mx Sh Un : Addr}
abbrev N_mixed_right : List Str := ["_law_row_here", "_law_one", "_law_other", "_law_script", "_law_found", "_law_pairs", "_law_odd", "_law_some", "_law_places", "_law_handed", "_law_answer", "_law_due", "_law_cell"]
theorem sc_law_mixed_right : FnScope N_mixed_right ["_law_row_here", "_law_one", "_law_other", "_law_script"] (defScope s_law_mixed_right) := ⟨rfl, rfl, rfl, by decide +kernel, rfl, by decide +kernel, by decide +kernel⟩
def p_law_mixed_right (ds : List D) : Prop := ∃ (row one other cs : List Int), ds = [.il row, .il one, .il other, .scr cs] ∧ row.length = one.length + other.length ∧ one.length ≤ 100 ∧ other.length ≤ 100 ∧ cs.length ≤ 63
def g_law_mixed_right (_ : List D) : D := .bl true
def oddP (k : Int) : M5.Pr := (k % 5 - 1, k / 5 % 5)
def oddF (d : D) : D := match d with | .int k => .tup [.int (k % 5 - 1), .int (k / 5 % 5)] | d => d
theorem odd_map (cs : List Int) : D.lst (((cs.map D.int).filter fun _ => true).map oddF) = prs (cs.map oddP) := by
  unfold prs
  rw [filter_tt, List.map_map, List.map_map]
  rfl
theorem prs_rev (ws : List M5.Pr) : D.lst ((ws.map fun p => D.tup [.int p.1, .int p.2]).reverse) = prs ws.reverse := by
  unfold prs
  rw [List.map_reverse]
theorem prs_cat (ws us : List M5.Pr) : D.lst ((ws.map fun p => D.tup [.int p.1, .int p.2]) ++ (us.map fun p => D.tup [.int p.1, .int p.2])) = prs (ws ++ us) := by
  unfold prs
  rw [List.map_append]
theorem prs_cut (ws : List M5.Pr) (lo hi : Option Int) : D.lst (cutL (ws.map fun p => D.tup [.int p.1, .int p.2]) lo hi) = prs (cutL ws lo hi) := by
  unfold prs
  rw [cutL_map]
theorem flat_tps : ∀ (ws : List M5.Pr) (gs : List G), erases gs = ws.map (fun p => D.tup [.int p.1, .int p.2]) → flatGs gs = true
  | [], gs, h => by
    cases gs with
    | nil => rfl
    | cons g r => rw [erases] at h; cases h
  | p :: ws, gs, h => by
    cases gs with
    | nil => rfl
    | cons g r =>
      rw [erases, List.map_cons] at h
      obtain ⟨h1, h2⟩ := List.cons.inj h
      rw [flatGs, flat_tps ws r h2, Bool.and_true]
      cases g with
      | d d =>
        rw [erase] at h1
        rw [h1]
        rfl
      | li b l => rw [erase] at h1; cases h1
      | ls b gs => rw [erase] at h1; cases h1
      | ob b C fs gs => rw [erase] at h1; cases h1
theorem flat_un {C : Addr} {ws : List M5.Pr} (g : G) (h : erase g = dUn C ws) (o : okG g = true) : flatG g = true := by
  obtain ⟨b, gs, rfl, h1, o1⟩ := okG_obj h o
  obtain ⟨g1, r1, rfl, h2, o2, h3, o3⟩ := okGs_cons h1 o1
  have := okGs_nil h3
  subst this
  obtain ⟨b', gs', rfl, h4, o4⟩ := okG_lst h2 o2
  show (flatGs gs' && true) = true
  rw [flat_tps ws gs' h4]
  rfl
theorem ok_law_mixed_right {f : Addr} {fd : FuncData} (F : Fun K "_law_mixed_right" "_law_mixed_right" s_law_mixed_right f fd) (T : Blt mg) (hMx : mg "Mixed" = some (.ref Mx)) (hUn : mg "Unmixed" = some (.ref Un)) (LM : Kl K Mx ["places"]) (LU : Kl K Un ["pairs"])
    (iMM : PySem.W.kitOne K (.ref Mx) (.ref Mx) = some true) (iMU : PySem.W.kitOne K (.ref Mx) (.ref Un) = some false) (iUU : PySem.W.kitOne K (.ref Un) (.ref Un) = some true) (iUM : PySem.W.kitOne K (.ref Un) (.ref Mx) = some false)
    (CMM : CalleeM P w K mg base 3 Mx "shows" (p_Mixed_shows Mx) g_Mixed_shows) (CMU : CalleeM P w K mg base 2 Un "shows" (p_Unmixed_shows Un) g_Unmixed_shows)
    (C_Mixed : MakerU P w K mg base 1 "Mixed" Mx p_Mixed_init (g_Mixed_init Mx)) (C_Unmixed : MakerU P w K mg base 1 "Unmixed" Un p_Unmixed_init (g_Unmixed_init Un))
    (C_mixed : CalleeUR P w K mg base 3 "mixed" p_mixed (r_mixed Mx Un))
    (C_law_bent : CalleeU P w K mg base 1 "_law_bent" p_law_bent g_law_bent) (C_law_says : Callee P w K mg base 1 "_law_says" p_law_says g_law_says)
    (C_law_is_mixed : Callee P w K mg base 2 "_law_is_mixed" p_law_is_mixed g_law_is_mixed) (C_law_unmixed : Callee P w K mg base 1 "_law_unmixed" p_law_unmixed g_law_unmixed) :
    FnOk P w K mg base CX0 4 f fd ["_law_row_here", "_law_one", "_law_other", "_law_script"] (spF K p_law_mixed_right g_law_mixed_right) := by
  refine fn_ok (k := 3) F sc_law_mixed_right (by rintro ds ⟨i, j, k, l, rfl, _⟩; rfl) fun cdv A outer s H E hr ds hp => ?_
  obtain ⟨row, one, other, cs, rfl, hlen, hz, hz2, hz3⟩ := hp
  have hu : (A.deeper (PyProof.Rows.envOfC "_law_mixed_right" (defScope s_law_mixed_right) s.heap.objs.size f cdv)).units + 64 < cLine := hr.units
  have nP := LM.no "places" (by simp)
  have nU := LU.no "pairs" (by simp)
  refine jss_cons (js_setR 4 (JUR.jer (jur_call C_mixed hr (ja_cons (je_v 0 rfl) (ja_cons (je_v 1 rfl) (ja_cons (je_v 2 rfl) ja_nil))) ⟨_, _, _, rfl, hlen, hz, hz2⟩)) (fun d hR => ?_) sc_law_mixed_right.nd)
  obtain ⟨ws, ps, hk, hws, hps⟩ : ∃ (ws : List M5.Pr) (ps : List Int), ((d = dLeft Mx ps ∧ ws = [(0, 0), (1, 0), (0, 1)]) ∨ (d = dUn Un ws ∧ ps = rngI 0 (one.length : Int).toNat)) ∧ ws.length ≤ 15000 ∧ ps.length ≤ 1000 := by
    cases r_mixed_iff hR with
    | mx ps hmx =>
      refine ⟨_, ps, .inl ⟨rfl, rfl⟩, by decide, ?_⟩
      unfold M5.mxF at hmx
      rw [Bool.and_eq_true] at hmx
      have := std_len hmx.1
      omega
    | un ws hun hl => exact ⟨ws, _, .inr ⟨rfl, rfl⟩, hl, by rw [rngI_length]; omega⟩
  clear hR
  show JSs _ _ _ [some (.v .imm (.il row)), some (.v .imm (.il one)), some (.v .imm (.il other)), some (.v .imm (.scr cs)), some (.v .frs d), none, none, none, none, none, none, none, none]
  refine jss_cons (js_set 5 (l := .frs) (d := prs ws) (by
    rcases hk with ⟨rfl, rfl⟩ | ⟨rfl, rfl⟩
    · exact JE.eq (je_if (v := false) (d1 := .non) (jt_v (v := false) (je_isC (b := false) T.isinstance hUn (je_v 4 rfl) iMU LM.i)) (fun c => by cases c) (fun _ => JO.je (jo_lst (l := .frs) (ja_cons (je_tup (l := .frs) (ja_cons je_int (ja_cons je_int ja_nil))) (ja_cons (je_tup (l := .frs) (ja_cons je_int (ja_cons je_int ja_nil))) (ja_cons (je_tup (l := .frs) (ja_cons je_int (ja_cons je_int ja_nil))) ja_nil)))))) rfl
    · exact JE.eq (je_if (v := true) (d2 := .non) (jt_v (v := true) (je_isC (b := true) T.isinstance hUn (je_v 4 rfl) iUU LU.i)) (fun _ => je_fld (d := prs ws) (je_v 4 rfl) LU.i.cl nU rfl) (fun c => by cases c)) rfl) ?_ (by decide) sc_law_mixed_right.nd)
  refine jss_cons (js_lcV 6 (own := [("_law_cell", 12)]) (l' := .frs) (Tst := fun _ => true) (f := oddF) (ρd := fun d => (wipeE _ 12).set 12 (some (.v .frs d))) (ji_listS (je_v 3 rfl)) (fun d hd _ _ _ _ _ => jgb_name 12 sc_law_mixed_right.nd) (fun _ _ _ _ _ _ _ => jts_nil) (fun d hd _ _ _ _ _ _ => by
    obtain ⟨k, _, rfl⟩ := List.mem_map.mp hd
    exact je_tup (l := .frs) (ja_cons (je_sub (je_mod (je_v 12 rfl) je_int (by decide)) je_int) (ja_cons (je_mod (je_div (je_v 12 rfl) je_int ⟨by decide, by decide⟩) je_int (by decide)) ja_nil))) ?_ sc_law_mixed_right.nd (blkOk_by (N := N_mixed_right) (sc := defScope s_law_mixed_right) (by decide +kernel)) (by rw [List.length_map]; omega))
  rw [odd_map]
  have hol : (cs.map oddP).length ≤ 63 := by rw [List.length_map]; exact hz3
  generalize cs.map oddP = odd at hol
  have c1 : (cutL ws none (some 2)).length ≤ 2 := by
    rw [cutL_to ws (by decide)]
    exact Nat.le_trans (List.length_take_le ..) (by decide)
  have c2 := cutL_length ws (some 1) none
  show JSs _ _ _ [some (.v .imm (.il row)), some (.v .imm (.il one)), some (.v .imm (.il other)), some (.v .imm (.scr cs)), some (.v .frs d), some (.v .frs (prs ws)), some (.v .frs (prs odd)), none, none, none, none, none, none]
  refine jss_cons (js_for (fun rest ρ => ∃ (r : List (List M5.Pr)) (x7 x9 x10 x11 : Option Lf.E), (∀ u, u ∈ r → u.length ≤ 20000) ∧ rest = r.map prs ∧ ρ = [some (.v .imm (.il row)), some (.v .imm (.il one)), some (.v .imm (.il other)), some (.v .imm (.scr cs)), some (.v .frs d), some (.v .frs (prs ws)), some (.v .frs (prs odd)), x7, none, x9, x10, x11, none])
    (ji_lst (JO.je (jo_lst (l := .frs) (ja_cons (je_v 5 rfl) (ja_cons (JE.eq (JO.je (jo_rev (je_v 5 rfl))) (prs_rev ws)) (ja_cons (JE.eq (JO.je (jo_cat (l := .frs) (je_v 5 rfl) (JE.eq (JO.je (jo_cut (je_v 5 rfl) jp_none (jp_some je_int))) (prs_cut ws none (some 2))) (hz := by rw [List.length_map, List.length_map]; omega))) (prs_cat ws _)) (ja_cons (JE.eq (JO.je (jo_cut (je_v 5 rfl) (jp_some je_int) jp_none)) (prs_cut ws (some 1) none)) (ja_cons (je_v 6 rfl) (ja_cons (JE.eq (JO.je (jo_cat (l := .frs) (JO.je (jo_lst (l := .frs) (ja_cons (je_tup (l := .frs) (ja_cons je_int (ja_cons je_int ja_nil))) ja_nil))) (je_v 6 rfl) (hz := by rw [List.length_map]; show 1 + _ ≤ _; omega))) (prs_cat [(0, 0)] odd)) (ja_cons (JE.eq (JO.je (jo_cat (l := .frs) (je_v 5 rfl) (je_v 6 rfl) (hz := by rw [List.length_map, List.length_map]; omega))) (prs_cat ws odd)) ja_nil))))))))))
    ⟨[ws, ws.reverse, ws ++ cutL ws none (some 2), cutL ws (some 1) none, odd, [(0, 0)] ++ odd, ws ++ odd], none, none, none, none, fun u hu' => by
      simp only [List.mem_cons, List.not_mem_nil, or_false] at hu'
      rcases hu' with rfl | rfl | rfl | rfl | rfl | rfl | rfl
      · omega
      · rw [List.length_reverse]; omega
      · rw [List.length_append]; omega
      · omega
      · omega
      · show odd.length + 1 ≤ _; omega
      · rw [List.length_append]; omega, rfl, rfl⟩ (fun d' rest ρ' hv => ?_) (fun ρ' hv => ?_))
  · obtain ⟨r, x7, x9, x10, x11, hr', hrest, rfl⟩ := hv
    cases r with
    | nil => cases hrest
    | cons us r =>
      obtain ⟨rfl, rfl⟩ := List.cons.inj hrest
      have hus := hr' us (List.mem_cons_self ..)
      refine ⟨_, jg_name 7 sc_law_mixed_right.nd, ?_⟩
      refine jss_cons (js_setO 9 (jo_list (ds := us.map fun p => D.tup [.int p.1, .int p.2]) T.list (je_v 7 rfl)) ?_ (by decide) sc_law_mixed_right.nd)
      refine jss_cons (js_set 10 (JU.je (JU.thaw 9 rfl (ju_make (d := dUn Un us) C_Unmixed hr (ja_cons (je_v 9 rfl) ja_nil) ⟨us, rfl⟩ rfl) flat_un)) ?_ (by decide) sc_law_mixed_right.nd)
      refine jss_cons (js_app 9 rfl (je_tup (l := .frs) (ja_cons je_int (ja_cons je_int ja_nil))) ?_ (by rw [List.length_map]; omega))
      refine jss_cons (js_set 11 (d := .bl (M5.unF row one other us)) (je_call C_law_unmixed hr (ja_cons (je_v 0 rfl) (ja_cons (je_v 1 rfl) (ja_cons (je_v 2 rfl) (ja_cons (je_v 7 rfl) ja_nil)))) ⟨_, _, _, _, rfl, hus⟩ (g_lun us row one other)) ?_ (by decide) sc_law_mixed_right.nd)
      refine jss_one (js_if (JW.pt (jw_or (jt_c (jc_neG hu (d1 := prs us) (d2 := prs us) (je_fld (d := prs us) (je_v 10 rfl) LU.i.cl nU rfl) (je_v 7 rfl) (lay_prs us) (lay_prs us) (dep_prs us) (dep_prs us))) (fun _ => (jw_or1 (jt_not (jt_v (v := true) (je_call C_law_says hr (ja_cons (je_meth CMU hr (je_v 10 rfl) rfl (ja_cons (je_v 0 rfl) (ja_cons (je_v 1 rfl) (ja_cons (je_v 2 rfl) ja_nil))) ⟨_, _, _, _, rfl, hus⟩ (g_un Un us row one other)) (ja_cons (je_v 11 rfl) ja_nil)) ⟨_, _, rfl⟩ (says_same (M5.unF row one other us))))))))) (fun c => ?_) (fun c => ?_))
      · rw [eqD_refl (lay_prs us)] at c
        cases c
      exact jss_nil ⟨r, _, _, _, _, fun l hl => hr' l (List.mem_cons_of_mem _ hl), rfl, rfl⟩
  obtain ⟨r, x7, x9, x10, x11, _, _, rfl⟩ := hv
  refine jss_cons (js_set 8 (l := .frs) (d := .il ps) (by
    rcases hk with ⟨rfl, rfl⟩ | ⟨rfl, rfl⟩
    · exact JE.eq (je_if (v := true) (d2 := .non) (jt_v (v := true) (je_isC (b := true) T.isinstance hMx (je_v 4 rfl) iMM LM.i)) (fun _ => je_fld (d := .il ps) (je_v 4 rfl) LM.i.cl nP rfl) (fun c => by cases c)) rfl
    · exact JE.eq (je_if (v := false) (d1 := .non) (jt_v (v := false) (je_isC (b := false) T.isinstance hMx (je_v 4 rfl) iUM LU.i)) (fun c => by cases c) (fun _ => JOI.je (joi_listRg T.list T.range (je_len T.len (je_v 1 rfl)) ⟨by omega, by omega⟩))) rfl) ?_ (by decide) sc_law_mixed_right.nd)
  have hbl := bentF_len cs ps
  refine jss_cons (js_for (fun rest ρ => ∃ (r : List (List Int)) (x7 x9 x10 x11 : Option Lf.E), (∀ u, u ∈ r → u.length ≤ 2000) ∧ rest = r.map D.il ∧ ρ = [some (.v .imm (.il row)), some (.v .imm (.il one)), some (.v .imm (.il other)), some (.v .imm (.scr cs)), some (.v .frs d), some (.v .frs (prs ws)), some (.v .frs (prs odd)), x7, some (.v .frs (.il ps)), x9, x10, x11, none])
    (ji_lst (JO.je (jo_lst (l := .frs) (ja_cons (je_v 8 rfl) (ja_cons (je_call (d := .il (bentF ps cs)) C_law_bent.callee hr (ja_cons (je_v 8 rfl) (ja_cons (je_v 3 rfl) ja_nil)) ⟨_, _, _, rfl, .inl rfl, by omega, by omega⟩) (ja_cons (JOI.je (joi_rev (je_v 8 rfl))) (ja_cons (JOI.je (joi_listRg T.list T.range (je_len T.len (je_v 1 rfl)) ⟨by omega, by omega⟩)) ja_nil)))))))
    ⟨[ps, bentF ps cs, ps.reverse, rngI 0 (one.length : Int).toNat], _, _, _, _, fun u hu' => by
      simp only [List.mem_cons, List.not_mem_nil, or_false] at hu'
      rcases hu' with rfl | rfl | rfl | rfl
      · omega
      · omega
      · rw [List.length_reverse]; omega
      · rw [rngI_length]; omega, rfl, rfl⟩ (fun d' rest ρ' hv => ?_) (fun ρ' hv => ?_))
  · obtain ⟨r, x7, x9, x10, x11, hr', hrest, rfl⟩ := hv
    cases r with
    | nil => cases hrest
    | cons us r =>
      obtain ⟨rfl, rfl⟩ := List.cons.inj hrest
      have hus := hr' us (List.mem_cons_self ..)
      refine ⟨_, jg_name 7 sc_law_mixed_right.nd, ?_⟩
      refine jss_cons (js_setOI 9 (joi_list T.list (je_v 7 rfl)) ?_ sc_law_mixed_right.nd)
      refine jss_cons (js_set 10 (JU.je (ju_makeB (d := dLeft Mx us) C_Mixed hr (ja_cons (je_oI 9 rfl) ja_nil) ⟨_, rfl⟩ rfl)) ?_ (by decide) sc_law_mixed_right.nd)
      refine jss_cons (js_appI 9 rfl je_int ?_ (by omega))
      refine jss_cons (js_set 11 (d := .bl (M5.mxF row one other us)) (je_call C_law_is_mixed hr (ja_cons (je_v 0 rfl) (ja_cons (je_v 1 rfl) (ja_cons (je_v 2 rfl) (ja_cons (je_v 7 rfl) ja_nil)))) ⟨_, _, _, _, rfl, by omega⟩) ?_ (by decide) sc_law_mixed_right.nd)
      refine jss_one (js_if (JW.pt (jw_or (jt_c (jc_neL hu (je_fld (d := .il us) (je_v 10 rfl) LM.i.cl nP rfl) (je_v 7 rfl))) (fun _ => (jw_or1 (jt_not (jt_v (v := true) (je_call C_law_says hr (ja_cons (je_meth CMM hr (je_v 10 rfl) rfl (ja_cons (je_v 0 rfl) (ja_cons (je_v 1 rfl) (ja_cons (je_v 2 rfl) ja_nil))) ⟨_, _, _, _, rfl, by omega⟩) (ja_cons (je_v 11 rfl) ja_nil)) ⟨_, _, rfl⟩ (says_same (M5.mxF row one other us))))))))) (fun c => ?_) (fun c => ?_))
      · rw [decide_eq_true rfl] at c
        cases c
      exact jss_nil ⟨r, _, _, _, _, fun l hl => hr' l (List.mem_cons_of_mem _ hl), rfl, rfl⟩
  obtain ⟨r, x7', x9', x10', x11', _, _, rfl⟩ := hv
  exact jss_one (js_ret je_bl rfl)

end
end Kc

set_option Elab.async false
set_option linter.all false
set_option maxRecDepth 100000
set_option maxHeartbeats 2000000
set_option autoImplicit false
namespace Kc
open PySem L2 Lf M1 M2
section
variable {P : Program} {w : World} {K : PySem.W.Frag} {mg : Str → Option Value} {base : Heap}
open M3 M4
variable {An Bo Le Lo Mi Mx Sh Un : Addr}
abbrev N_few_right : List Str := ["_law_bad", "_law_good", "_law_said"]
theorem sc_law_few_right : FnScope N_few_right [] (defScope s_law_few_right) := ⟨rfl, rfl, rfl, by decide +kernel, rfl, by decide +kernel, by decide +kernel⟩
def p_law_few_right (ds : List D) : Prop := ds = []
def g_law_few_right (_ : List D) : D := .bl true
theorem fl1 : ¬ LongOk [1] [1] [] [] [[0, 0], [0, 0]] := fun h => by
  have := (h.t.c 1 1 (by decide) (by decide)).d (by decide) (by decide) rfl
  exact absurd this (by decide)
theorem fl2 : LongOk [1, 2] [1] [0] [0] [[0, 0], [1, 1], [1, 1]] := by
  refine ⟨by decide, by decide, by decide, ⟨rfl, fun i hi => ?_, fun i j hi hj => ?_⟩, by decide⟩
  · have hi : i ≤ 2 := hi
    have : i = 0 ∨ i = 1 ∨ i = 2 := by omega
    rcases this with rfl | rfl | rfl <;> rfl
  · have hi : i ≤ 2 := hi
    have hj : j ≤ 1 := hj
    have h1 : i = 0 ∨ i = 1 ∨ i = 2 := by omega
    have h2 : j = 0 ∨ j = 1 := by omega
    rcases h1 with rfl | rfl | rfl <;> rcases h2 with rfl | rfl <;> exact ⟨by decide, by decide, by decide, by decide⟩
def AB (v : Bool) (n : Nat) (ds : List D) : Prop := ds.length ≤ n ∧ ∀ d, d ∈ ds → d = .bl v
theorem AB.sc {v : Bool} {n : Nat} {ds : List D} (h : AB v n ds) : ds.all scal = true := List.all_eq_true.mpr fun d hd => by rw [h.2 d hd]; rfl
theorem AB.cat {v : Bool} {n m : Nat} {ds es : List D} (h : AB v n ds) (h' : AB v m es) : AB v (n + m) (ds ++ es) :=
  ⟨by rw [List.length_append]; exact Nat.add_le_add h.1 h'.1, fun d hd => (List.mem_append.mp hd).elim (h.2 d) (h'.2 d)⟩
theorem fl3 : LongOk [] [] [] [] [[0]] := longOk [] []
theorem jaF {X : Cx} {la : Lv} {e : Expr} {es : List Expr} {ρ : PEnv} {d : D} {ds : List D} (h : JE X la e ρ d) (hr : JA X .full es ρ ds) (hs : starEach (e :: es) X.env = (false, eval e X.env) :: starEach es X.env) : JA X .full (e :: es) ρ (d :: ds) := ja_cons h hr (Lv.le_full _) hs
theorem jaR {X : Cx} {la : Lv} {e : Expr} {es : List Expr} {ρ : PEnv} {d : D} {ds : List D} (h : JE X la e ρ d) (hr : JA X .frs es ρ ds) (hl : Lv.le la .frs = true) (hs : starEach (e :: es) X.env = (false, eval e X.env) :: starEach es X.env) : JA X .frs (e :: es) ρ (d :: ds) := ja_cons h hr hl hs
theorem ok_law_few_right {f : Addr} {fd : FuncData} (F : Fun K "_law_few_right" "_law_few_right" s_law_few_right f fd) (T : Blt mg)
    (CML : CalleeM P w K mg base 3 Le "shows" (p_Left_shows Le) g_Left_shows) (CMS : CalleeM P w K mg base 3 Sh "shows" (p_Short_shows Sh) g_Short_shows)
    (CMi : CalleeM P w K mg base 2 Mi "shows" (p_Missing_shows Mi) g_Missing_shows) (CMU : CalleeM P w K mg base 2 Un "shows" (p_Unmixed_shows Un) g_Unmixed_shows)
    (CMM : CalleeM P w K mg base 3 Mx "shows" (p_Mixed_shows Mx) g_Mixed_shows) (CML2 : CalleeM P w K mg base 2 Lo "shows" (p_Longest_shows Lo) g_Longest_shows)
    (C_Left : MakerU P w K mg base 1 "Left" Le p_Left_init (g_Left_init Le)) (C_Short : MakerU P w K mg base 1 "Short" Sh p_Short_init (g_Short_init Sh))
    (C_Missing : MakerU P w K mg base 1 "Missing" Mi p_Missing_init (g_Missing_init Mi)) (C_Unmixed : MakerU P w K mg base 1 "Unmixed" Un p_Unmixed_init (g_Unmixed_init Un))
    (C_Mixed : MakerU P w K mg base 1 "Mixed" Mx p_Mixed_init (g_Mixed_init Mx)) (C_Longest : MakerU P w K mg base 1 "Longest" Lo p_Longest_init (g_Longest_init Lo))
    (C_law_says : Callee P w K mg base 1 "_law_says" p_law_says g_law_says) : FnOk P w K mg base CX0 4 f fd [] (spF K p_law_few_right g_law_few_right) := by
  refine fn_ok (k := 3) F sc_law_few_right (by rintro ds rfl; rfl) fun cdv A outer s H E hr ds hp => ?_
  subst hp
  refine jss_cons (js_setO 0 (jo_lst (l := .frs) (@jaR _ _ _ _ _ _ _ (je_meth (d := .bl false) CMS hr (JU.je (ju_makeB (d := dLeft Sh [0]) C_Short hr (@jaF _ _ _ _ _ _ _ (JOI.je (joi_lst (l := .frs) (ns := [0]) (@jaR _ _ _ _ _ _ _ je_int ja_nil rfl (star_c rfl)))) ja_nil (star_c rfl)) ⟨_, rfl⟩ rfl)) rfl (@jaF _ _ _ _ _ _ _ (JOI.je (joi_lst (l := .frs) (ns := [1, 1, 2]) (@jaR _ _ _ _ _ _ _ je_int (@jaR _ _ _ _ _ _ _ je_int (@jaR _ _ _ _ _ _ _ je_int ja_nil rfl (star_c rfl)) rfl (star_c rfl)) rfl (star_c rfl)))) (@jaF _ _ _ _ _ _ _ (JOI.je (joi_lst (l := .frs) (ns := [1, 1, 2]) (@jaR _ _ _ _ _ _ _ je_int (@jaR _ _ _ _ _ _ _ je_int (@jaR _ _ _ _ _ _ _ je_int ja_nil rfl (star_c rfl)) rfl (star_c rfl)) rfl (star_c rfl)))) ja_nil (star_c rfl)) (star_c rfl)) ⟨_, _, _, rfl, by decide⟩ (congrArg D.bl (show shF [1, 1, 2] [0] [1, 1, 2] = false by decide +kernel))) (@jaR _ _ _ _ _ _ _ (je_meth (d := .bl false) CMS hr (JU.je (ju_makeB (d := dLeft Sh [1]) C_Short hr (@jaF _ _ _ _ _ _ _ (JOI.je (joi_lst (l := .frs) (ns := [1]) (@jaR _ _ _ _ _ _ _ je_int ja_nil rfl (star_c rfl)))) ja_nil (star_c rfl)) ⟨_, rfl⟩ rfl)) rfl (@jaF _ _ _ _ _ _ _ (JOI.je (joi_lst (l := .frs) (ns := [1, 1]) (@jaR _ _ _ _ _ _ _ je_int (@jaR _ _ _ _ _ _ _ je_int ja_nil rfl (star_c rfl)) rfl (star_c rfl)))) (@jaF _ _ _ _ _ _ _ (JOI.je (joi_lst (l := .frs) (ns := [1, 2]) (@jaR _ _ _ _ _ _ _ je_int (@jaR _ _ _ _ _ _ _ je_int ja_nil rfl (star_c rfl)) rfl (star_c rfl)))) ja_nil (star_c rfl)) (star_c rfl)) ⟨_, _, _, rfl, by decide⟩ (congrArg D.bl (show shF [1, 1] [1] [1, 2] = false by decide +kernel))) (@jaR _ _ _ _ _ _ _ (je_meth (d := .bl false) CML hr (JU.je (ju_makeB (d := dLeft Le [0, 0]) C_Left hr (@jaF _ _ _ _ _ _ _ (JOI.je (joi_lst (l := .frs) (ns := [0, 0]) (@jaR _ _ _ _ _ _ _ je_int (@jaR _ _ _ _ _ _ _ je_int ja_nil rfl (star_c rfl)) rfl (star_c rfl)))) ja_nil (star_c rfl)) ⟨_, rfl⟩ rfl)) rfl (@jaF _ _ _ _ _ _ _ (JOI.je (joi_lst (l := .frs) (ns := [1]) (@jaR _ _ _ _ _ _ _ je_int ja_nil rfl (star_c rfl)))) (@jaF _ _ _ _ _ _ _ (JOI.je (joi_lst (l := .frs) (ns := [1, 1]) (@jaR _ _ _ _ _ _ _ je_int (@jaR _ _ _ _ _ _ _ je_int ja_nil rfl (star_c rfl)) rfl (star_c rfl)))) ja_nil (star_c rfl)) (star_c rfl)) ⟨_, _, _, rfl, by decide⟩ (congrArg D.bl (show stdF [1] [0, 0] [1, 1] = false by decide +kernel))) ja_nil rfl (star_c rfl)) rfl (star_c rfl)) rfl (star_c rfl))) ?_ (by decide) sc_law_few_right.nd)
  have h0 : AB false 3 [D.bl false, D.bl false, D.bl false] := ⟨by decide, fun d hd => by simpa using hd⟩
  show JSs _ _ _ [some (.own .frs [D.bl false, D.bl false, D.bl false]), none, none]
  generalize [D.bl false, D.bl false, D.bl false] = es0 at h0 ⊢
  refine jss_cons (js_setO 0 (jo_catF (je_o 0 rfl) (JO.je (jo_lst (l := .frs) (@jaR _ _ _ _ _ _ _ (je_meth (d := .bl false) CMi hr (JU.je (ju_makeB (d := dMis Mi [] [1]) C_Missing hr (@jaF _ _ _ _ _ _ _ (JOI.je joi_nil) (@jaF _ _ _ _ _ _ _ (JOI.je (joi_lst (l := .frs) (ns := [1]) (@jaR _ _ _ _ _ _ _ je_int ja_nil rfl (star_c rfl)))) ja_nil (star_c rfl)) (star_c rfl)) ⟨_, _, rfl⟩ rfl)) rfl (@jaF _ _ _ _ _ _ _ (JOI.je (joi_lst (l := .frs) (ns := [0]) (@jaR _ _ _ _ _ _ _ je_int ja_nil rfl (star_c rfl)))) (@jaF _ _ _ _ _ _ _ je_int ja_nil (star_c rfl)) (star_c rfl)) ⟨_, _, _, _, rfl, by decide, by decide, by decide⟩ (congrArg D.bl (show misF [0] 1 [] [1] = false by decide +kernel))) (@jaR _ _ _ _ _ _ _ (je_meth (d := .bl false) CMi hr (JU.je (ju_makeB (d := dMis Mi [2] [0, 0]) C_Missing hr (@jaF _ _ _ _ _ _ _ (JOI.je (joi_lst (l := .frs) (ns := [2]) (@jaR _ _ _ _ _ _ _ je_int ja_nil rfl (star_c rfl)))) (@jaF _ _ _ _ _ _ _ (JOI.je (joi_lst (l := .frs) (ns := [0, 0]) (@jaR _ _ _ _ _ _ _ je_int (@jaR _ _ _ _ _ _ _ je_int ja_nil rfl (star_c rfl)) rfl (star_c rfl)))) ja_nil (star_c rfl)) (star_c rfl)) ⟨_, _, rfl⟩ rfl)) rfl (@jaF _ _ _ _ _ _ _ (JOI.je (joi_lst (l := .frs) (ns := [0, 1, 0]) (@jaR _ _ _ _ _ _ _ je_int (@jaR _ _ _ _ _ _ _ je_int (@jaR _ _ _ _ _ _ _ je_int ja_nil rfl (star_c rfl)) rfl (star_c rfl)) rfl (star_c rfl)))) (@jaF _ _ _ _ _ _ _ je_int ja_nil (star_c rfl)) (star_c rfl)) ⟨_, _, _, _, rfl, by decide, by decide, by decide⟩ (congrArg D.bl (show misF [0, 1, 0] 2 [2] [0, 0] = false by decide +kernel))) ja_nil rfl (star_c rfl)) rfl (star_c rfl)))) h0.sc rfl (by have := h0.1; simp; omega)) ?_ (by decide) sc_law_few_right.nd)
  have h0 := h0.cat (show AB false 2 [D.bl false, D.bl false] from ⟨by decide, fun d hd => by simpa using hd⟩)
  show JSs _ _ _ [some (.own .frs (es0 ++ [D.bl false, D.bl false])), none, none]
  generalize es0 ++ [D.bl false, D.bl false] = es0_1 at h0 ⊢
  refine jss_cons (js_setO 0 (jo_catF (je_o 0 rfl) (JO.je (jo_lst (l := .frs) (@jaR _ _ _ _ _ _ _ (je_meth (d := .bl false) CMU hr (JU.je (ju_make (d := dUn Un [(0, 0)]) C_Unmixed hr (@jaR _ _ _ _ _ _ _ (JO.je (jo_lst (l := .frs) (@jaR _ _ _ _ _ _ _ (je_tup (l := .frs) (ja_cons je_int (ja_cons je_int ja_nil))) ja_nil rfl (star_c rfl)))) ja_nil rfl (star_c rfl)) ⟨[(0, 0)], rfl⟩ rfl)) rfl (@jaF _ _ _ _ _ _ _ (JOI.je (joi_lst (l := .frs) (ns := [1, 2]) (@jaR _ _ _ _ _ _ _ je_int (@jaR _ _ _ _ _ _ _ je_int ja_nil rfl (star_c rfl)) rfl (star_c rfl)))) (@jaF _ _ _ _ _ _ _ (JOI.je (joi_lst (l := .frs) (ns := [1]) (@jaR _ _ _ _ _ _ _ je_int ja_nil rfl (star_c rfl)))) (@jaF _ _ _ _ _ _ _ (JOI.je (joi_lst (l := .frs) (ns := [2]) (@jaR _ _ _ _ _ _ _ je_int ja_nil rfl (star_c rfl)))) ja_nil (star_c rfl)) (star_c rfl)) (star_c rfl)) ⟨[(0, 0)], _, _, _, rfl, by decide⟩ ((g_un Un [(0, 0)] [1, 2] [1] [2]).trans (congrArg D.bl (show M5.unF [1, 2] [1] [2] [(0, 0)] = false by decide +kernel)))) (@jaR _ _ _ _ _ _ _ (je_meth (d := .bl false) CMU hr (JU.je (ju_make (d := dUn Un []) C_Unmixed hr (@jaR _ _ _ _ _ _ _ (JO.je (jo_lst (l := .frs) ja_nil)) ja_nil rfl (star_c rfl)) ⟨[], rfl⟩ rfl)) rfl (@jaF _ _ _ _ _ _ _ (JOI.je (joi_lst (l := .frs) (ns := [3, 2]) (@jaR _ _ _ _ _ _ _ je_int (@jaR _ _ _ _ _ _ _ je_int ja_nil rfl (star_c rfl)) rfl (star_c rfl)))) (@jaF _ _ _ _ _ _ _ (JOI.je (joi_lst (l := .frs) (ns := [1]) (@jaR _ _ _ _ _ _ _ je_int ja_nil rfl (star_c rfl)))) (@jaF _ _ _ _ _ _ _ (JOI.je (joi_lst (l := .frs) (ns := [2]) (@jaR _ _ _ _ _ _ _ je_int ja_nil rfl (star_c rfl)))) ja_nil (star_c rfl)) (star_c rfl)) (star_c rfl)) ⟨[], _, _, _, rfl, by decide⟩ ((g_un Un [] [3, 2] [1] [2]).trans (congrArg D.bl (show M5.unF [3, 2] [1] [2] [] = false by decide +kernel)))) ja_nil rfl (star_c rfl)) rfl (star_c rfl)))) h0.sc rfl (by have := h0.1; simp; omega)) ?_ (by decide) sc_law_few_right.nd)
  have h0 := h0.cat (show AB false 2 [D.bl false, D.bl false] from ⟨by decide, fun d hd => by simpa using hd⟩)
  show JSs _ _ _ [some (.own .frs (es0_1 ++ [D.bl false, D.bl false])), none, none]
  generalize es0_1 ++ [D.bl false, D.bl false] = es0_2 at h0 ⊢
  refine jss_cons (js_setO 0 (jo_catF (je_o 0 rfl) (JO.je (jo_lst (l := .frs) (@jaR _ _ _ _ _ _ _ (je_meth (d := .bl false) CMM hr (JU.je (ju_makeB (d := dLeft Mx [0]) C_Mixed hr (@jaF _ _ _ _ _ _ _ (JOI.je (joi_lst (l := .frs) (ns := [0]) (@jaR _ _ _ _ _ _ _ je_int ja_nil rfl (star_c rfl)))) ja_nil (star_c rfl)) ⟨_, rfl⟩ rfl)) rfl (@jaF _ _ _ _ _ _ _ (JOI.je (joi_lst (l := .frs) (ns := [1, 3]) (@jaR _ _ _ _ _ _ _ je_int (@jaR _ _ _ _ _ _ _ je_int ja_nil rfl (star_c rfl)) rfl (star_c rfl)))) (@jaF _ _ _ _ _ _ _ (JOI.je (joi_lst (l := .frs) (ns := [1]) (@jaR _ _ _ _ _ _ _ je_int ja_nil rfl (star_c rfl)))) (@jaF _ _ _ _ _ _ _ (JOI.je (joi_lst (l := .frs) (ns := [2]) (@jaR _ _ _ _ _ _ _ je_int ja_nil rfl (star_c rfl)))) ja_nil (star_c rfl)) (star_c rfl)) (star_c rfl)) ⟨_, _, _, _, rfl, by decide⟩ (congrArg D.bl (show M5.mxF [1, 3] [1] [2] [0] = false by decide +kernel))) (@jaR _ _ _ _ _ _ _ (je_meth (d := .bl false) CML2 hr (JU.je (ju_makeB (d := dLong Lo [] [] [[0, 0], [0, 0]]) C_Longest hr (@jaF _ _ _ _ _ _ _ (JOI.je joi_nil) (@jaF _ _ _ _ _ _ _ (JOI.je joi_nil) (@jaF _ _ _ _ _ _ _ (JO.je (jo_lst (l := .frs) (@jaR _ _ _ _ _ _ _ (JOI.je (joi_lst (l := .frs) (ns := [0, 0]) (@jaR _ _ _ _ _ _ _ je_int (@jaR _ _ _ _ _ _ _ je_int ja_nil rfl (star_c rfl)) rfl (star_c rfl)))) (@jaR _ _ _ _ _ _ _ (JOI.je (joi_lst (l := .frs) (ns := [0, 0]) (@jaR _ _ _ _ _ _ _ je_int (@jaR _ _ _ _ _ _ _ je_int ja_nil rfl (star_c rfl)) rfl (star_c rfl)))) ja_nil rfl (star_c rfl)) rfl (star_c rfl)))) ja_nil (star_c rfl)) (star_c rfl)) (star_c rfl)) ⟨_, _, [[0, 0], [0, 0]], rfl, by simp⟩ rfl)) rfl (@jaF _ _ _ _ _ _ _ (JOI.je (joi_lst (l := .frs) (ns := [1]) (@jaR _ _ _ _ _ _ _ je_int ja_nil rfl (star_c rfl)))) (@jaF _ _ _ _ _ _ _ (JOI.je (joi_lst (l := .frs) (ns := [1]) (@jaR _ _ _ _ _ _ _ je_int ja_nil rfl (star_c rfl)))) ja_nil (star_c rfl)) (star_c rfl)) ⟨_, _, [[0, 0], [0, 0]], _, _, rfl, by decide, by decide⟩ ((g_long Lo [] [] [[0, 0], [0, 0]] [1] [1]).trans (congrArg D.bl (dec_f fl1)))) ja_nil rfl (star_c rfl)) rfl (star_c rfl)))) h0.sc rfl (by have := h0.1; simp; omega)) ?_ (by decide) sc_law_few_right.nd)
  have h0 := h0.cat (show AB false 2 [D.bl false, D.bl false] from ⟨by decide, fun d hd => by simpa using hd⟩)
  show JSs _ _ _ [some (.own .frs (es0_2 ++ [D.bl false, D.bl false])), none, none]
  generalize es0_2 ++ [D.bl false, D.bl false] = es0_3 at h0 ⊢
  refine jss_cons (js_app 0 rfl (je_meth (d := .bl false) CMU hr (JU.je (ju_make (d := dUn Un [(0, 0), (-1, 0)]) C_Unmixed hr (@jaR _ _ _ _ _ _ _ (JO.je (jo_lst (l := .frs) (@jaR _ _ _ _ _ _ _ (je_tup (l := .frs) (ja_cons je_int (ja_cons je_int ja_nil))) (@jaR _ _ _ _ _ _ _ (je_tup (l := .frs) (ja_cons (je_neg je_int) (ja_cons je_int ja_nil))) ja_nil rfl (star_c rfl)) rfl (star_c rfl)))) ja_nil rfl (star_c rfl)) ⟨[(0, 0), (-1, 0)], rfl⟩ rfl)) rfl (@jaF _ _ _ _ _ _ _ (JOI.je (joi_lst (l := .frs) (ns := [3, 2]) (@jaR _ _ _ _ _ _ _ je_int (@jaR _ _ _ _ _ _ _ je_int ja_nil rfl (star_c rfl)) rfl (star_c rfl)))) (@jaF _ _ _ _ _ _ _ (JOI.je (joi_lst (l := .frs) (ns := [1]) (@jaR _ _ _ _ _ _ _ je_int ja_nil rfl (star_c rfl)))) (@jaF _ _ _ _ _ _ _ (JOI.je (joi_lst (l := .frs) (ns := [2]) (@jaR _ _ _ _ _ _ _ je_int ja_nil rfl (star_c rfl)))) ja_nil (star_c rfl)) (star_c rfl)) (star_c rfl)) ⟨[(0, 0), (-1, 0)], _, _, _, rfl, by decide⟩ ((g_un Un [(0, 0), (-1, 0)] [3, 2] [1] [2]).trans (congrArg D.bl (show M5.unF [3, 2] [1] [2] [(0, 0), (-1, 0)] = false by decide +kernel)))) ?_ (by have := h0.1; omega))
  have h0 := h0.cat (show AB false 1 [D.bl false] from ⟨by decide, fun d hd => by simpa using hd⟩)
  show JSs _ _ _ [some (.own .frs (es0_3 ++ [D.bl false])), none, none]
  generalize es0_3 ++ [D.bl false] = es0_4 at h0 ⊢
  refine jss_cons (js_setO 1 (jo_lst (l := .frs) (@jaR _ _ _ _ _ _ _ (je_meth (d := .bl true) CML2 hr (JU.je (ju_makeB (d := dLong Lo [0] [0] [[0, 0], [1, 1], [1, 1]]) C_Longest hr (@jaF _ _ _ _ _ _ _ (JOI.je (joi_lst (l := .frs) (ns := [0]) (@jaR _ _ _ _ _ _ _ je_int ja_nil rfl (star_c rfl)))) (@jaF _ _ _ _ _ _ _ (JOI.je (joi_lst (l := .frs) (ns := [0]) (@jaR _ _ _ _ _ _ _ je_int ja_nil rfl (star_c rfl)))) (@jaF _ _ _ _ _ _ _ (JO.je (jo_lst (l := .frs) (@jaR _ _ _ _ _ _ _ (JOI.je (joi_lst (l := .frs) (ns := [0, 0]) (@jaR _ _ _ _ _ _ _ je_int (@jaR _ _ _ _ _ _ _ je_int ja_nil rfl (star_c rfl)) rfl (star_c rfl)))) (@jaR _ _ _ _ _ _ _ (JOI.je (joi_lst (l := .frs) (ns := [1, 1]) (@jaR _ _ _ _ _ _ _ je_int (@jaR _ _ _ _ _ _ _ je_int ja_nil rfl (star_c rfl)) rfl (star_c rfl)))) (@jaR _ _ _ _ _ _ _ (JOI.je (joi_lst (l := .frs) (ns := [1, 1]) (@jaR _ _ _ _ _ _ _ je_int (@jaR _ _ _ _ _ _ _ je_int ja_nil rfl (star_c rfl)) rfl (star_c rfl)))) ja_nil rfl (star_c rfl)) rfl (star_c rfl)) rfl (star_c rfl)))) ja_nil (star_c rfl)) (star_c rfl)) (star_c rfl)) ⟨_, _, [[0, 0], [1, 1], [1, 1]], rfl, by simp⟩ rfl)) rfl (@jaF _ _ _ _ _ _ _ (JOI.je (joi_lst (l := .frs) (ns := [1, 2]) (@jaR _ _ _ _ _ _ _ je_int (@jaR _ _ _ _ _ _ _ je_int ja_nil rfl (star_c rfl)) rfl (star_c rfl)))) (@jaF _ _ _ _ _ _ _ (JOI.je (joi_lst (l := .frs) (ns := [1]) (@jaR _ _ _ _ _ _ _ je_int ja_nil rfl (star_c rfl)))) ja_nil (star_c rfl)) (star_c rfl)) ⟨_, _, [[0, 0], [1, 1], [1, 1]], _, _, rfl, by decide, by decide⟩ ((g_long Lo [0] [0] [[0, 0], [1, 1], [1, 1]] [1, 2] [1]).trans (congrArg D.bl (dec_t fl2)))) ja_nil rfl (star_c rfl))) ?_ (by decide) sc_law_few_right.nd)
  have h1 : AB true 1 [D.bl true] := ⟨by decide, fun d hd => by simpa using hd⟩
  show JSs _ _ _ [some (.own .frs es0_4), some (.own .frs [D.bl true]), none]
  generalize [D.bl true] = es1 at h1 ⊢
  refine jss_cons (js_setO 1 (jo_catF (je_o 1 rfl) (JO.je (jo_lst (l := .frs) (@jaR _ _ _ _ _ _ _ (je_meth (d := .bl true) CMS hr (JU.je (ju_makeB (d := dLeft Sh [0]) C_Short hr (@jaF _ _ _ _ _ _ _ (JOI.je (joi_lst (l := .frs) (ns := [0]) (@jaR _ _ _ _ _ _ _ je_int ja_nil rfl (star_c rfl)))) ja_nil (star_c rfl)) ⟨_, rfl⟩ rfl)) rfl (@jaF _ _ _ _ _ _ _ (JOI.je (joi_lst (l := .frs) (ns := [1, 1]) (@jaR _ _ _ _ _ _ _ je_int (@jaR _ _ _ _ _ _ _ je_int ja_nil rfl (star_c rfl)) rfl (star_c rfl)))) (@jaF _ _ _ _ _ _ _ (JOI.je (joi_lst (l := .frs) (ns := [1, 2]) (@jaR _ _ _ _ _ _ _ je_int (@jaR _ _ _ _ _ _ _ je_int ja_nil rfl (star_c rfl)) rfl (star_c rfl)))) ja_nil (star_c rfl)) (star_c rfl)) ⟨_, _, _, rfl, by decide⟩ (congrArg D.bl (show shF [1, 1] [0] [1, 2] = true by decide +kernel))) (@jaR _ _ _ _ _ _ _ (je_meth (d := .bl true) CMi hr (JU.je (ju_makeB (d := dMis Mi [2] [1, 1]) C_Missing hr (@jaF _ _ _ _ _ _ _ (JOI.je (joi_lst (l := .frs) (ns := [2]) (@jaR _ _ _ _ _ _ _ je_int ja_nil rfl (star_c rfl)))) (@jaF _ _ _ _ _ _ _ (JOI.je (joi_lst (l := .frs) (ns := [1, 1]) (@jaR _ _ _ _ _ _ _ je_int (@jaR _ _ _ _ _ _ _ je_int ja_nil rfl (star_c rfl)) rfl (star_c rfl)))) ja_nil (star_c rfl)) (star_c rfl)) ⟨_, _, rfl⟩ rfl)) rfl (@jaF _ _ _ _ _ _ _ (JOI.je (joi_lst (l := .frs) (ns := [0, 1, 0]) (@jaR _ _ _ _ _ _ _ je_int (@jaR _ _ _ _ _ _ _ je_int (@jaR _ _ _ _ _ _ _ je_int ja_nil rfl (star_c rfl)) rfl (star_c rfl)) rfl (star_c rfl)))) (@jaF _ _ _ _ _ _ _ je_int ja_nil (star_c rfl)) (star_c rfl)) ⟨_, _, _, _, rfl, by decide, by decide, by decide⟩ (congrArg D.bl (show misF [0, 1, 0] 2 [2] [1, 1] = true by decide +kernel))) (@jaR _ _ _ _ _ _ _ (je_meth (d := .bl true) CMS hr (JU.je (ju_makeB (d := dLeft Sh []) C_Short hr (@jaF _ _ _ _ _ _ _ (JOI.je joi_nil) ja_nil (star_c rfl)) ⟨_, rfl⟩ rfl)) rfl (@jaF _ _ _ _ _ _ _ (JOI.je joi_nil) (@jaF _ _ _ _ _ _ _ (JOI.je (joi_lst (l := .frs) (ns := [5]) (@jaR _ _ _ _ _ _ _ je_int ja_nil rfl (star_c rfl)))) ja_nil (star_c rfl)) (star_c rfl)) ⟨_, _, _, rfl, by decide⟩ (congrArg D.bl (show shF [] [] [5] = true by decide +kernel))) ja_nil rfl (star_c rfl)) rfl (star_c rfl)) rfl (star_c rfl)))) h1.sc rfl (by have := h1.1; simp; omega)) ?_ (by decide) sc_law_few_right.nd)
  have h1 := h1.cat (show AB true 3 [D.bl true, D.bl true, D.bl true] from ⟨by decide, fun d hd => by simpa using hd⟩)
  show JSs _ _ _ [some (.own .frs es0_4), some (.own .frs (es1 ++ [D.bl true, D.bl true, D.bl true])), none]
  generalize es1 ++ [D.bl true, D.bl true, D.bl true] = es1_1 at h1 ⊢
  refine jss_cons (js_setO 1 (jo_catF (je_o 1 rfl) (JO.je (jo_lst (l := .frs) (@jaR _ _ _ _ _ _ _ (je_meth (d := .bl true) CMU hr (JU.je (ju_make (d := dUn Un [(0, 0)]) C_Unmixed hr (@jaR _ _ _ _ _ _ _ (JO.je (jo_lst (l := .frs) (@jaR _ _ _ _ _ _ _ (je_tup (l := .frs) (ja_cons je_int (ja_cons je_int ja_nil))) ja_nil rfl (star_c rfl)))) ja_nil rfl (star_c rfl)) ⟨[(0, 0)], rfl⟩ rfl)) rfl (@jaF _ _ _ _ _ _ _ (JOI.je (joi_lst (l := .frs) (ns := [3, 2]) (@jaR _ _ _ _ _ _ _ je_int (@jaR _ _ _ _ _ _ _ je_int ja_nil rfl (star_c rfl)) rfl (star_c rfl)))) (@jaF _ _ _ _ _ _ _ (JOI.je (joi_lst (l := .frs) (ns := [1]) (@jaR _ _ _ _ _ _ _ je_int ja_nil rfl (star_c rfl)))) (@jaF _ _ _ _ _ _ _ (JOI.je (joi_lst (l := .frs) (ns := [2]) (@jaR _ _ _ _ _ _ _ je_int ja_nil rfl (star_c rfl)))) ja_nil (star_c rfl)) (star_c rfl)) (star_c rfl)) ⟨[(0, 0)], _, _, _, rfl, by decide⟩ ((g_un Un [(0, 0)] [3, 2] [1] [2]).trans (congrArg D.bl (show M5.unF [3, 2] [1] [2] [(0, 0)] = true by decide +kernel)))) (@jaR _ _ _ _ _ _ _ (je_meth (d := .bl true) CML2 hr (JU.je (ju_makeB (d := dLong Lo [] [] [[0]]) C_Longest hr (@jaF _ _ _ _ _ _ _ (JOI.je joi_nil) (@jaF _ _ _ _ _ _ _ (JOI.je joi_nil) (@jaF _ _ _ _ _ _ _ (JO.je (jo_lst (l := .frs) (@jaR _ _ _ _ _ _ _ (JOI.je (joi_lst (l := .frs) (ns := [0]) (@jaR _ _ _ _ _ _ _ je_int ja_nil rfl (star_c rfl)))) ja_nil rfl (star_c rfl)))) ja_nil (star_c rfl)) (star_c rfl)) (star_c rfl)) ⟨_, _, [[0]], rfl, by simp⟩ rfl)) rfl (@jaF _ _ _ _ _ _ _ (JOI.je joi_nil) (@jaF _ _ _ _ _ _ _ (JOI.je joi_nil) ja_nil (star_c rfl)) (star_c rfl)) ⟨_, _, [[0]], _, _, rfl, by decide, by decide⟩ ((g_long Lo [] [] [[0]] [] []).trans (congrArg D.bl (dec_t fl3)))) ja_nil rfl (star_c rfl)) rfl (star_c rfl)))) h1.sc rfl (by have := h1.1; simp; omega)) ?_ (by decide) sc_law_few_right.nd)
  have h1 := h1.cat (show AB true 2 [D.bl true, D.bl true] from ⟨by decide, fun d hd => by simpa using hd⟩)
  show JSs _ _ _ [some (.own .frs es0_4), some (.own .frs (es1_1 ++ [D.bl true, D.bl true])), none]
  generalize es1_1 ++ [D.bl true, D.bl true] = es1_2 at h1 ⊢
  refine jss_keepO 0 rfl ?_
  refine jss_keepO 1 rfl ?_
  have l0 := h0.1
  have l1 := h1.1
  refine jss_one (js_ret (JE.eq (je_and (v := (es1_2.map fun _ => true).all id) (u := (es0_4.map fun _ => true).all id) (je_all T.all (JO.je (jo_mapDB (x := "_law_said") (n := 2) (f := fun _ => true) (ji_lst (je_v 1 rfl)) (fun _ _ _ _ _ _ _ => jgb_name 2 sc_law_few_right.nd) (fun d hd _ _ _ _ _ => by
    have hd := h1.2 d hd
    subst hd
    exact (je_call C_law_says hr (ja_cons (je_v 2 rfl) (ja_cons je_bl ja_nil)) ⟨_, _, rfl⟩ (says_same true))) sc_law_few_right.nd (blkOk_by (N := N_few_right) (sc := defScope s_law_few_right) (by decide +kernel)) (by omega)))) (fun _ => (je_one (je_all T.all (JO.je (jo_mapDB (x := "_law_said") (n := 2) (f := fun _ => true) (ji_lst (je_v 0 rfl)) (fun _ _ _ _ _ _ _ => jgb_name 2 sc_law_few_right.nd) (fun d hd _ _ _ _ _ => by
    have hd := h0.2 d hd
    subst hd
    exact (je_call C_law_says hr (ja_cons (je_v 2 rfl) (ja_cons je_bl ja_nil)) ⟨_, _, rfl⟩ (says_same false))) sc_law_few_right.nd (blkOk_by (N := N_few_right) (sc := defScope s_law_few_right) (by decide +kernel)) (by omega))))))) (by rw [all_true, all_true]; rfl)) rfl)

end
end Kc

set_option Elab.async false
set_option linter.all false
set_option maxRecDepth 100000
set_option maxHeartbeats 2000000
set_option autoImplicit false
namespace Kc
open PySem L2 Lf M1 M2
section
variable {P : Program} {w : World} {K : PySem.W.Frag} {mg : Str → Option Value} {base : Heap}
open M3 M4
variable {An Bo Le Lo Mi Mx Sh Un : Addr}
def p_law (ds : List D) : Prop := ∃ cs : List Int, ds = [.scr cs] ∧ cs.length ≤ 63
def g_law (_ : List D) : D := .bl true
abbrev N_law : List Str := ["_law_script", "_law_row_here", "_law_some", "_law_one", "_law_other", "_law_sign", "_law_cell"]
theorem sc_law : FnScope N_law ["_law_script"] (defScope s_law) := ⟨rfl, rfl, rfl, by decide +kernel, rfl, by decide +kernel, by decide +kernel⟩
theorem ok_law {f : Addr} {fd : FuncData} (F : Fun K "law" "law" s_law f fd) (T : Blt mg) (C_law_row : Callee P w K mg base 1 "_law_row" p_law_row g_law_row) (C_law_few_right : Callee P w K mg base 4 "_law_few_right" p_law_few_right g_law_few_right)
    (C_law_places_right : Callee P w K mg base 4 "_law_places_right" p_law_places_right g_law_places_right) (C_law_tables_right : Callee P w K mg base 5 "_law_tables_right" p_law_tables_right g_law_tables_right)
    (C_law_missing_right : Callee P w K mg base 4 "_law_missing_right" p_law_missing_right g_law_missing_right) (C_law_mixed_right : Callee P w K mg base 4 "_law_mixed_right" p_law_mixed_right g_law_mixed_right) : FnOk P w K mg base CX0 6 f fd ["_law_script"] (spF K p_law g_law) := by
  refine fn_ok (k := 5) F sc_law (by rintro ds ⟨i, rfl, _⟩; rfl) fun cdv A outer s H E hr ds hp => ?_
  obtain ⟨cs, rfl, hz⟩ := hp
  have h0 := M5.step0_len cs
  have h1 := M5.step1_len cs
  have e0 := lawRow_length (stepL cs none none (some 2)) cs.sum
  have e1 := lawRow_length (stepL cs (some 1) none (some 2)) cs.sum
  have e2 := lawRow_length cs cs.sum
  refine jss_cons (js_par 3 4 (l := .frs) (d1 := .il (lawRow (stepL cs none none (some 2)) cs.sum)) (d2 := .il (lawRow (stepL cs (some 1) none (some 2)) cs.sum)) (ja_cons (je_call C_law_row hr (ja_cons (JOI.je (joi_stepS (je_v 0 rfl) (hz := by omega))) (ja_cons (je_sumS T.sum (je_v 0 rfl)) ja_nil)) ⟨_, _, _, rfl, .inr rfl, by omega⟩) (ja_cons (je_call C_law_row hr (ja_cons (JOI.je (joi_stepFS (je_v 0 rfl) (hz := by omega))) (ja_cons (je_sumS T.sum (je_v 0 rfl)) ja_nil)) ⟨_, _, _, rfl, .inr rfl, by omega⟩) ja_nil)) ?_ (by decide) sc_law.nd)
  refine jss_cons (js_set 1 (d := .il (lawRow cs cs.sum)) (je_call C_law_row hr (ja_cons (je_v 0 rfl) (ja_cons (je_sumS T.sum (je_v 0 rfl)) ja_nil)) ⟨_, _, _, rfl, .inl rfl, by omega⟩) ?_ (by decide) sc_law.nd)
  generalize lawRow (stepL cs none none (some 2)) cs.sum = one at e0
  generalize lawRow (stepL cs (some 1) none (some 2)) cs.sum = other at e1
  generalize lawRow cs cs.sum = row at e2
  have hsum : one.length + other.length = cs.length := by omega
  show JSs _ _ _ [some (.v .imm (.scr cs)), some (.v .frs (.il row)), none, some (.v .frs (.il one)), some (.v .frs (.il other)), none, none]
  refine jss_cons (js_if (JW.pt (jw_or (jt_not (jt_v (v := true) (je_call0 C_law_few_right hr rfl))) (fun _ => (jw_or (jt_not (jt_v (v := true) (je_call C_law_places_right hr (ja_cons (je_v 1 rfl) (ja_cons (je_v 4 rfl) (ja_cons (je_v 0 rfl) ja_nil))) ⟨_, _, _, rfl, by omega, by omega, hz⟩))) (fun _ => (jw_or1 (jt_not (jt_v (v := true) (je_call C_law_places_right hr (ja_cons (je_v 3 rfl) (ja_cons (je_v 4 rfl) (ja_cons (je_v 0 rfl) ja_nil))) ⟨_, _, _, rfl, by omega, by omega, hz⟩))))))))) (fun c => ?_) (fun c => ?_))
  · cases c
  refine jss_nil ?_
  have c1 := cutL_length one none (some 8)
  have c2 := cutL_length other none (some 8)
  refine jss_cons (js_if (jt_not (jt_v (v := true) (je_call C_law_tables_right hr (ja_cons (JOI.je (joi_cut (je_v 3 rfl) jp_none (jp_some je_int))) (ja_cons (JOI.je (joi_cut (je_v 4 rfl) jp_none (jp_some je_int))) (ja_cons (je_v 0 rfl) ja_nil))) ⟨_, _, _, rfl, by omega, by omega, hz⟩))) (fun c => ?_) (fun c => ?_))
  · cases c
  refine jss_nil ?_
  refine jss_cons (js_if (jt_not (jt_v (v := true) (je_call C_law_missing_right hr (ja_cons (JOI.je (joi_mapI (x := "_law_cell") (n := 6) (f := fun c => c % 3) (ji_listS (je_v 0 rfl)) (fun _ _ _ _ _ _ => jgb_name 6 sc_law.nd) (fun k hk _ _ _ _ _ => (je_mod (je_v 6 rfl) je_int (by decide))) sc_law.nd (blkOk_by (N := N_law) (sc := defScope s_law) (by decide +kernel)) (by omega))) (ja_cons (je_v 0 rfl) ja_nil)) ⟨_, _, rfl, by rw [List.length_map]; exact hz, hz⟩))) (fun c => ?_) (fun c => ?_))
  · cases c
  refine jss_nil ?_
  have hrot : (cutL row (some 1) none ++ cutL row none (some 1)).length = row.length := by
    rw [cutL_from row (by decide), cutL_to row (by decide), List.length_append, List.length_drop, List.length_take]
    show row.length - 1 + min 1 row.length = row.length
    omega
  have d1 := cutL_length row (some 1) none
  have d2 := cutL_length row none (some 1)
  refine jss_cons (js_for (fun rest ρ => ∃ (r : List (List Int)) (x2 : Option Lf.E), (∀ u, u ∈ r → u.length = one.length + other.length) ∧ rest = r.map D.il ∧ ρ = [some (.v .imm (.scr cs)), some (.v .frs (.il row)), x2, some (.v .frs (.il one)), some (.v .frs (.il other)), none, none])
    (ji_lst (JO.je (jo_lst (l := .frs) (ja_cons (je_v 1 rfl) (ja_cons (JOI.je (joi_rev (je_v 1 rfl))) (ja_cons (JOI.je (joi_cat (JOI.je (joi_cut (je_v 1 rfl) (jp_some je_int) jp_none)) (JOI.je (joi_cut (je_v 1 rfl) jp_none (jp_some je_int))) (by omega))) (ja_cons (JOI.je (joi_mapI (x := "_law_sign") (n := 5) (f := fun c => c + 1) (ji_list (je_v 1 rfl)) (fun _ _ _ _ _ _ => jgb_name 5 sc_law.nd) (fun k hk _ _ _ _ _ => (je_add (je_v 5 rfl) je_int)) sc_law.nd (blkOk_by (N := N_law) (sc := defScope s_law) (by decide +kernel)) (by omega))) ja_nil)))))))
    ⟨[row, row.reverse, cutL row (some 1) none ++ cutL row none (some 1), row.map fun c => c + 1], none, fun u hu' => by
      simp only [List.mem_cons, List.not_mem_nil, or_false] at hu'
      rcases hu' with rfl | rfl | rfl | rfl
      · omega
      · rw [List.length_reverse]; omega
      · rw [hrot]; omega
      · rw [List.length_map]; omega, rfl, rfl⟩ (fun d' rest ρ' hv => ?_) (fun ρ' hv => ?_))
  · obtain ⟨r, x2, hr', hrest, rfl⟩ := hv
    cases r with
    | nil => cases hrest
    | cons u r =>
      obtain ⟨rfl, rfl⟩ := List.cons.inj hrest
      have hu := hr' u (List.mem_cons_self ..)
      refine ⟨_, jg_name 2 sc_law.nd, ?_⟩
      refine jss_one (js_if (jt_not (jt_v (v := true) (je_call C_law_mixed_right hr (ja_cons (je_v 2 rfl) (ja_cons (je_v 3 rfl) (ja_cons (je_v 4 rfl) (ja_cons (je_v 0 rfl) ja_nil)))) ⟨_, _, _, _, rfl, hu, by omega, by omega, hz⟩))) (fun c => ?_) (fun c => ?_))
      · cases c
      exact jss_nil ⟨r, _, fun l hl => hr' l (List.mem_cons_of_mem _ hl), rfl, rfl⟩
  obtain ⟨r, x2, _, _, rfl⟩ := hv
  exact jss_one (js_ret (je_call C_law_mixed_right hr (ja_cons (JOI.je (joi_cat (je_v 3 rfl) (je_v 4 rfl) (by omega))) (ja_cons (je_v 3 rfl) (ja_cons (je_v 4 rfl) (ja_cons (je_v 0 rfl) ja_nil)))) ⟨_, _, _, _, rfl, by rw [List.length_append], by omega, by omega, hz⟩) rfl)

end
end Kc

set_option Elab.async false
set_option linter.all false
set_option maxRecDepth 100000
set_option maxHeartbeats 2000000
set_option autoImplicit false
namespace Kc
open PySem L2 Lf
theorem all_mk {l : PySem.W.OpenLaw} {w : World} {K : PySem.W.Frag} {h : Heap} {mg : Str → Option Value} {fa CBoth CLeft CLongest CMissing CMixed CShort CUnmixed f_is_number f_check_row f_check_kinds f_earliest f_are_rising f_stands f_is_table f_table_of f_common_places f_steps_on f_Both_init f_Left_init f_Longest_init f_Missing_init f_Mixed_init f_Short_init f_Unmixed_init f_Both_shows f_Left_shows f_Longest_shows f_Missing_shows f_Mixed_shows f_Short_shows f_Unmixed_shows f_left f_longest f_shortest f_missing f_mixed f_law_row f_law_stands f_law_is_left f_law_short f_law_table f_law_long f_law_missed f_law_is_mixed f_law_unmixed f_law_says f_law_bent f_law_places_right f_law_rows_right f_law_tables_right f_law_missing_right f_law_mixed_right f_law_few_right f_law : Addr} (X : K.In h) (G : h.Ns mainGlobals mg) (hfa : mg "law" = some (.ref fa))
    {od_is_number an_is_number od_check_row an_check_row od_check_kinds an_check_kinds od_earliest an_earliest od_are_rising an_are_rising od_stands an_stands od_is_table an_is_table od_table_of an_table_of od_common_places an_common_places od_steps_on an_steps_on od_Both_init an_Both_init od_Left_init an_Left_init od_Longest_init an_Longest_init od_Missing_init an_Missing_init od_Mixed_init an_Mixed_init od_Short_init an_Short_init od_Unmixed_init an_Unmixed_init od_Both_shows an_Both_shows od_Left_shows an_Left_shows od_Longest_shows an_Longest_shows od_Missing_shows an_Missing_shows od_Mixed_shows an_Mixed_shows od_Short_shows an_Short_shows od_Unmixed_shows an_Unmixed_shows od_left an_left od_longest an_longest od_shortest an_shortest od_missing an_missing od_mixed an_mixed od_law_row an_law_row od_law_stands an_law_stands od_law_is_left an_law_is_left od_law_short an_law_short od_law_table an_law_table od_law_long an_law_long od_law_missed an_law_missed od_law_is_mixed an_law_is_mixed od_law_unmixed an_law_unmixed od_law_says an_law_says od_law_bent an_law_bent od_law_places_right an_law_places_right od_law_rows_right an_law_rows_right od_law_tables_right an_law_tables_right od_law_missing_right an_law_missing_right od_law_mixed_right an_law_mixed_right od_law_few_right an_law_few_right od_law an_law : Option Addr} {sl_is_number sl_check_row sl_check_kinds sl_earliest sl_are_rising sl_stands sl_is_table sl_table_of sl_common_places sl_steps_on sl_Both_init sl_Left_init sl_Longest_init sl_Missing_init sl_Mixed_init sl_Short_init sl_Unmixed_init sl_Both_shows sl_Left_shows sl_Longest_shows sl_Missing_shows sl_Mixed_shows sl_Short_shows sl_Unmixed_shows sl_left sl_longest sl_shortest sl_missing sl_mixed sl_law_row sl_law_stands sl_law_is_left sl_law_short sl_law_table sl_law_long sl_law_missed sl_law_is_mixed sl_law_unmixed sl_law_says sl_law_bent sl_law_places_right sl_law_rows_right sl_law_tables_right sl_law_missing_right sl_law_mixed_right sl_law_few_right sl_law : Array (Option Value)} {oc_is_number kV_is_number dc_is_number pm_is_number cd_is_number ct_is_number oc_check_row kV_check_row dc_check_row pm_check_row cd_check_row ct_check_row oc_check_kinds kV_check_kinds dc_check_kinds pm_check_kinds cd_check_kinds ct_check_kinds oc_earliest kV_earliest dc_earliest pm_earliest cd_earliest ct_earliest oc_are_rising kV_are_rising dc_are_rising pm_are_rising cd_are_rising ct_are_rising oc_stands kV_stands dc_stands pm_stands cd_stands ct_stands oc_is_table kV_is_table dc_is_table pm_is_table cd_is_table ct_is_table oc_table_of kV_table_of dc_table_of pm_table_of cd_table_of ct_table_of oc_common_places kV_common_places dc_common_places pm_common_places cd_common_places ct_common_places oc_steps_on kV_steps_on dc_steps_on pm_steps_on cd_steps_on ct_steps_on oc_Both_init kV_Both_init dc_Both_init pm_Both_init cd_Both_init ct_Both_init oc_Left_init kV_Left_init dc_Left_init pm_Left_init cd_Left_init ct_Left_init oc_Longest_init kV_Longest_init dc_Longest_init pm_Longest_init cd_Longest_init ct_Longest_init oc_Missing_init kV_Missing_init dc_Missing_init pm_Missing_init cd_Missing_init ct_Missing_init oc_Mixed_init kV_Mixed_init dc_Mixed_init pm_Mixed_init cd_Mixed_init ct_Mixed_init oc_Short_init kV_Short_init dc_Short_init pm_Short_init cd_Short_init ct_Short_init oc_Unmixed_init kV_Unmixed_init dc_Unmixed_init pm_Unmixed_init cd_Unmixed_init ct_Unmixed_init oc_Both_shows kV_Both_shows dc_Both_shows pm_Both_shows cd_Both_shows ct_Both_shows oc_Left_shows kV_Left_shows dc_Left_shows pm_Left_shows cd_Left_shows ct_Left_shows oc_Longest_shows kV_Longest_shows dc_Longest_shows pm_Longest_shows cd_Longest_shows ct_Longest_shows oc_Missing_shows kV_Missing_shows dc_Missing_shows pm_Missing_shows cd_Missing_shows ct_Missing_shows oc_Mixed_shows kV_Mixed_shows dc_Mixed_shows pm_Mixed_shows cd_Mixed_shows ct_Mixed_shows oc_Short_shows kV_Short_shows dc_Short_shows pm_Short_shows cd_Short_shows ct_Short_shows oc_Unmixed_shows kV_Unmixed_shows dc_Unmixed_shows pm_Unmixed_shows cd_Unmixed_shows ct_Unmixed_shows oc_left kV_left dc_left pm_left cd_left ct_left oc_longest kV_longest dc_longest pm_longest cd_longest ct_longest oc_shortest kV_shortest dc_shortest pm_shortest cd_shortest ct_shortest oc_missing kV_missing dc_missing pm_missing cd_missing ct_missing oc_mixed kV_mixed dc_mixed pm_mixed cd_mixed ct_mixed oc_law_row kV_law_row dc_law_row pm_law_row cd_law_row ct_law_row oc_law_stands kV_law_stands dc_law_stands pm_law_stands cd_law_stands ct_law_stands oc_law_is_left kV_law_is_left dc_law_is_left pm_law_is_left cd_law_is_left ct_law_is_left oc_law_short kV_law_short dc_law_short pm_law_short cd_law_short ct_law_short oc_law_table kV_law_table dc_law_table pm_law_table cd_law_table ct_law_table oc_law_long kV_law_long dc_law_long pm_law_long cd_law_long ct_law_long oc_law_missed kV_law_missed dc_law_missed pm_law_missed cd_law_missed ct_law_missed oc_law_is_mixed kV_law_is_mixed dc_law_is_mixed pm_law_is_mixed cd_law_is_mixed ct_law_is_mixed oc_law_unmixed kV_law_unmixed dc_law_unmixed pm_law_unmixed cd_law_unmixed ct_law_unmixed oc_law_says kV_law_says dc_law_says pm_law_says cd_law_says ct_law_says oc_law_bent kV_law_bent dc_law_bent pm_law_bent cd_law_bent ct_law_bent oc_law_places_right kV_law_places_right dc_law_places_right pm_law_places_right cd_law_places_right ct_law_places_right oc_law_rows_right kV_law_rows_right dc_law_rows_right pm_law_rows_right cd_law_rows_right ct_law_rows_right oc_law_tables_right kV_law_tables_right dc_law_tables_right pm_law_tables_right cd_law_tables_right ct_law_tables_right oc_law_missing_right kV_law_missing_right dc_law_missing_right pm_law_missing_right cd_law_missing_right ct_law_missing_right oc_law_mixed_right kV_law_mixed_right dc_law_mixed_right pm_law_mixed_right cd_law_mixed_right ct_law_mixed_right oc_law_few_right kV_law_few_right dc_law_few_right pm_law_few_right cd_law_few_right ct_law_few_right oc_law kV_law dc_law pm_law cd_law ct_law : Value}
    (n_isinstance : PySem.W.nsIn K mainGlobals "isinstance" = some none)
    (n_int : PySem.W.nsIn K mainGlobals "int" = some none)
    (n_bool : PySem.W.nsIn K mainGlobals "bool" = some none)
    (n_list : PySem.W.nsIn K mainGlobals "list" = some none)
    (n_tuple : PySem.W.nsIn K mainGlobals "tuple" = some none)
    (n_len : PySem.W.nsIn K mainGlobals "len" = some none)
    (n_range : PySem.W.nsIn K mainGlobals "range" = some none)
    (n_reversed : PySem.W.nsIn K mainGlobals "reversed" = some none)
    (n_enumerate : PySem.W.nsIn K mainGlobals "enumerate" = some none)
    (n_zip : PySem.W.nsIn K mainGlobals "zip" = some none)
    (n_sum : PySem.W.nsIn K mainGlobals "sum" = some none)
    (n_min : PySem.W.nsIn K mainGlobals "min" = some none)
    (n_max : PySem.W.nsIn K mainGlobals "max" = some none)
    (n_all : PySem.W.nsIn K mainGlobals "all" = some none)
    (n_any : PySem.W.nsIn K mainGlobals "any" = some none)
    (n_set : PySem.W.nsIn K mainGlobals "set" = some none)
    (n_sorted : PySem.W.nsIn K mainGlobals "sorted" = some none)
    (g_get : PySem.W.specialIn K (.builtin "object.__class__") "__get__" = some (some (.builtin "getset_descriptor.__get__")))
    (g_tk : PySem.W.takesIn K (.builtin "object.__class__") = some true)
    (a_Both : PySem.W.nsIn K mainGlobals "Both" = some (some (.ref CBoth)))
    (pg_Both : PySem.W.plainGet K CBoth Str.empty = true)
    (hd_Both : PySem.W.hasDictIn K CBoth = true)
    (po_Both : PySem.W.plainOver K CBoth = true)
    (sa_Both : PySem.W.findIn K (.ref CBoth) "__setattr__" = some (some (.builtin "object.__setattr__")))
    (cc_Both : PySem.W.findIn K (.ref CBoth) "__class__" = some (some (.builtin "object.__class__")))
    (mo_Both : PySem.W.mroIn K CBoth (.type "object") = some true)
    (no_Both_row : PySem.W.findIn K (.ref CBoth) "row" = some none)
    (no_Both_mine : PySem.W.findIn K (.ref CBoth) "mine" = some none)
    (no_Both_theirs : PySem.W.findIn K (.ref CBoth) "theirs" = some none)
    (no_Both_table : PySem.W.findIn K (.ref CBoth) "table" = some none)
    (a_Left : PySem.W.nsIn K mainGlobals "Left" = some (some (.ref CLeft)))
    (pg_Left : PySem.W.plainGet K CLeft Str.empty = true)
    (hd_Left : PySem.W.hasDictIn K CLeft = true)
    (po_Left : PySem.W.plainOver K CLeft = true)
    (sa_Left : PySem.W.findIn K (.ref CLeft) "__setattr__" = some (some (.builtin "object.__setattr__")))
    (cc_Left : PySem.W.findIn K (.ref CLeft) "__class__" = some (some (.builtin "object.__class__")))
    (mo_Left : PySem.W.mroIn K CLeft (.type "object") = some true)
    (no_Left_places : PySem.W.findIn K (.ref CLeft) "places" = some none)
    (a_Longest : PySem.W.nsIn K mainGlobals "Longest" = some (some (.ref CLongest)))
    (pg_Longest : PySem.W.plainGet K CLongest Str.empty = true)
    (hd_Longest : PySem.W.hasDictIn K CLongest = true)
    (po_Longest : PySem.W.plainOver K CLongest = true)
    (sa_Longest : PySem.W.findIn K (.ref CLongest) "__setattr__" = some (some (.builtin "object.__setattr__")))
    (cc_Longest : PySem.W.findIn K (.ref CLongest) "__class__" = some (some (.builtin "object.__class__")))
    (mo_Longest : PySem.W.mroIn K CLongest (.type "object") = some true)
    (no_Longest_mine : PySem.W.findIn K (.ref CLongest) "mine" = some none)
    (no_Longest_theirs : PySem.W.findIn K (.ref CLongest) "theirs" = some none)
    (no_Longest_table : PySem.W.findIn K (.ref CLongest) "table" = some none)
    (a_Missing : PySem.W.nsIn K mainGlobals "Missing" = some (some (.ref CMissing)))
    (pg_Missing : PySem.W.plainGet K CMissing Str.empty = true)
    (hd_Missing : PySem.W.hasDictIn K CMissing = true)
    (po_Missing : PySem.W.plainOver K CMissing = true)
    (sa_Missing : PySem.W.findIn K (.ref CMissing) "__setattr__" = some (some (.builtin "object.__setattr__")))
    (cc_Missing : PySem.W.findIn K (.ref CMissing) "__class__" = some (some (.builtin "object.__class__")))
    (mo_Missing : PySem.W.mroIn K CMissing (.type "object") = some true)
    (no_Missing_cuts : PySem.W.findIn K (.ref CMissing) "cuts" = some none)
    (no_Missing_word : PySem.W.findIn K (.ref CMissing) "word" = some none)
    (a_Mixed : PySem.W.nsIn K mainGlobals "Mixed" = some (some (.ref CMixed)))
    (pg_Mixed : PySem.W.plainGet K CMixed Str.empty = true)
    (hd_Mixed : PySem.W.hasDictIn K CMixed = true)
    (po_Mixed : PySem.W.plainOver K CMixed = true)
    (sa_Mixed : PySem.W.findIn K (.ref CMixed) "__setattr__" = some (some (.builtin "object.__setattr__")))
    (cc_Mixed : PySem.W.findIn K (.ref CMixed) "__class__" = some (some (.builtin "object.__class__")))
    (mo_Mixed : PySem.W.mroIn K CMixed (.type "object") = some true)
    (no_Mixed_places : PySem.W.findIn K (.ref CMixed) "places" = some none)
    (a_Short : PySem.W.nsIn K mainGlobals "Short" = some (some (.ref CShort)))
    (pg_Short : PySem.W.plainGet K CShort Str.empty = true)
    (hd_Short : PySem.W.hasDictIn K CShort = true)
    (po_Short : PySem.W.plainOver K CShort = true)
    (sa_Short : PySem.W.findIn K (.ref CShort) "__setattr__" = some (some (.builtin "object.__setattr__")))
    (cc_Short : PySem.W.findIn K (.ref CShort) "__class__" = some (some (.builtin "object.__class__")))
    (mo_Short : PySem.W.mroIn K CShort (.type "object") = some true)
    (no_Short_places : PySem.W.findIn K (.ref CShort) "places" = some none)
    (a_Unmixed : PySem.W.nsIn K mainGlobals "Unmixed" = some (some (.ref CUnmixed)))
    (pg_Unmixed : PySem.W.plainGet K CUnmixed Str.empty = true)
    (hd_Unmixed : PySem.W.hasDictIn K CUnmixed = true)
    (po_Unmixed : PySem.W.plainOver K CUnmixed = true)
    (sa_Unmixed : PySem.W.findIn K (.ref CUnmixed) "__setattr__" = some (some (.builtin "object.__setattr__")))
    (cc_Unmixed : PySem.W.findIn K (.ref CUnmixed) "__class__" = some (some (.builtin "object.__class__")))
    (mo_Unmixed : PySem.W.mroIn K CUnmixed (.type "object") = some true)
    (no_Unmixed_pairs : PySem.W.findIn K (.ref CUnmixed) "pairs" = some none)
    (i_Mixed_Mixed : PySem.W.kitOne K (.ref CMixed) (.ref CMixed) = some true)
    (i_Mixed_Unmixed : PySem.W.kitOne K (.ref CMixed) (.ref CUnmixed) = some false)
    (i_Unmixed_Unmixed : PySem.W.kitOne K (.ref CUnmixed) (.ref CUnmixed) = some true)
    (i_Unmixed_Mixed : PySem.W.kitOne K (.ref CUnmixed) (.ref CMixed) = some false)
    (a_is_number : PySem.W.nsIn K mainGlobals "is_number" = some (some (.ref f_is_number)))
    (l_is_number : K.lookup f_is_number = some ⟨oc_is_number, od_is_number, .func (PySem.W.fnOf "is_number" "is_number" (defArgs s_is_number) (defBody s_is_number) (defScope s_is_number) .none kV_is_number dc_is_number pm_is_number an_is_number cd_is_number ct_is_number), sl_is_number⟩)
    (c_is_number : PySem.W.codeIn K cd_is_number "is_number" = true)
    (k_is_number : PySem.W.keepIn K (.ref f_is_number) = true)
    (a_check_row : PySem.W.nsIn K mainGlobals "check_row" = some (some (.ref f_check_row)))
    (l_check_row : K.lookup f_check_row = some ⟨oc_check_row, od_check_row, .func (PySem.W.fnOf "check_row" "check_row" (defArgs s_check_row) (defBody s_check_row) (defScope s_check_row) .none kV_check_row dc_check_row pm_check_row an_check_row cd_check_row ct_check_row), sl_check_row⟩)
    (c_check_row : PySem.W.codeIn K cd_check_row "check_row" = true)
    (k_check_row : PySem.W.keepIn K (.ref f_check_row) = true)
    (a_check_kinds : PySem.W.nsIn K mainGlobals "check_kinds" = some (some (.ref f_check_kinds)))
    (l_check_kinds : K.lookup f_check_kinds = some ⟨oc_check_kinds, od_check_kinds, .func (PySem.W.fnOf "check_kinds" "check_kinds" (defArgs s_check_kinds) (defBody s_check_kinds) (defScope s_check_kinds) .none kV_check_kinds dc_check_kinds pm_check_kinds an_check_kinds cd_check_kinds ct_check_kinds), sl_check_kinds⟩)
    (c_check_kinds : PySem.W.codeIn K cd_check_kinds "check_kinds" = true)
    (k_check_kinds : PySem.W.keepIn K (.ref f_check_kinds) = true)
    (a_earliest : PySem.W.nsIn K mainGlobals "earliest" = some (some (.ref f_earliest)))
    (l_earliest : K.lookup f_earliest = some ⟨oc_earliest, od_earliest, .func (PySem.W.fnOf "earliest" "earliest" (defArgs s_earliest) (defBody s_earliest) (defScope s_earliest) .none kV_earliest dc_earliest pm_earliest an_earliest cd_earliest ct_earliest), sl_earliest⟩)
    (c_earliest : PySem.W.codeIn K cd_earliest "earliest" = true)
    (k_earliest : PySem.W.keepIn K (.ref f_earliest) = true)
    (a_are_rising : PySem.W.nsIn K mainGlobals "are_rising" = some (some (.ref f_are_rising)))
    (l_are_rising : K.lookup f_are_rising = some ⟨oc_are_rising, od_are_rising, .func (PySem.W.fnOf "are_rising" "are_rising" (defArgs s_are_rising) (defBody s_are_rising) (defScope s_are_rising) .none kV_are_rising dc_are_rising pm_are_rising an_are_rising cd_are_rising ct_are_rising), sl_are_rising⟩)
    (c_are_rising : PySem.W.codeIn K cd_are_rising "are_rising" = true)
    (k_are_rising : PySem.W.keepIn K (.ref f_are_rising) = true)
    (a_stands : PySem.W.nsIn K mainGlobals "stands" = some (some (.ref f_stands)))
    (l_stands : K.lookup f_stands = some ⟨oc_stands, od_stands, .func (PySem.W.fnOf "stands" "stands" (defArgs s_stands) (defBody s_stands) (defScope s_stands) .none kV_stands dc_stands pm_stands an_stands cd_stands ct_stands), sl_stands⟩)
    (c_stands : PySem.W.codeIn K cd_stands "stands" = true)
    (k_stands : PySem.W.keepIn K (.ref f_stands) = true)
    (a_is_table : PySem.W.nsIn K mainGlobals "is_table" = some (some (.ref f_is_table)))
    (l_is_table : K.lookup f_is_table = some ⟨oc_is_table, od_is_table, .func (PySem.W.fnOf "is_table" "is_table" (defArgs s_is_table) (defBody s_is_table) (defScope s_is_table) .none kV_is_table dc_is_table pm_is_table an_is_table cd_is_table ct_is_table), sl_is_table⟩)
    (c_is_table : PySem.W.codeIn K cd_is_table "is_table" = true)
    (k_is_table : PySem.W.keepIn K (.ref f_is_table) = true)
    (a_table_of : PySem.W.nsIn K mainGlobals "table_of" = some (some (.ref f_table_of)))
    (l_table_of : K.lookup f_table_of = some ⟨oc_table_of, od_table_of, .func (PySem.W.fnOf "table_of" "table_of" (defArgs s_table_of) (defBody s_table_of) (defScope s_table_of) .none kV_table_of dc_table_of pm_table_of an_table_of cd_table_of ct_table_of), sl_table_of⟩)
    (c_table_of : PySem.W.codeIn K cd_table_of "table_of" = true)
    (k_table_of : PySem.W.keepIn K (.ref f_table_of) = true)
    (a_common_places : PySem.W.nsIn K mainGlobals "common_places" = some (some (.ref f_common_places)))
    (l_common_places : K.lookup f_common_places = some ⟨oc_common_places, od_common_places, .func (PySem.W.fnOf "common_places" "common_places" (defArgs s_common_places) (defBody s_common_places) (defScope s_common_places) .none kV_common_places dc_common_places pm_common_places an_common_places cd_common_places ct_common_places), sl_common_places⟩)
    (c_common_places : PySem.W.codeIn K cd_common_places "common_places" = true)
    (k_common_places : PySem.W.keepIn K (.ref f_common_places) = true)
    (a_steps_on : PySem.W.nsIn K mainGlobals "steps_on" = some (some (.ref f_steps_on)))
    (l_steps_on : K.lookup f_steps_on = some ⟨oc_steps_on, od_steps_on, .func (PySem.W.fnOf "steps_on" "steps_on" (defArgs s_steps_on) (defBody s_steps_on) (defScope s_steps_on) .none kV_steps_on dc_steps_on pm_steps_on an_steps_on cd_steps_on ct_steps_on), sl_steps_on⟩)
    (c_steps_on : PySem.W.codeIn K cd_steps_on "steps_on" = true)
    (k_steps_on : PySem.W.keepIn K (.ref f_steps_on) = true)
    (t_Both_init : PySem.W.findIn K (.ref CBoth) "__init__" = some (some (.ref f_Both_init)))
    (l_Both_init : K.lookup f_Both_init = some ⟨oc_Both_init, od_Both_init, .func (PySem.W.fnOf "__init__" "Both.__init__" (defArgs s_Both_init) (defBody s_Both_init) (defScope s_Both_init) .none kV_Both_init dc_Both_init pm_Both_init an_Both_init cd_Both_init ct_Both_init), sl_Both_init⟩)
    (c_Both_init : PySem.W.codeIn K cd_Both_init "Both.__init__" = true)
    (k_Both_init : PySem.W.keepIn K (.ref f_Both_init) = true)
    (fn_Both_init : PySem.W.isFn K (.ref f_Both_init) = true)
    (m_Both_init : PySem.W.makesIn K CBoth = true)
    (q_Both_init : PySem.W.keepIn K (.ref CBoth) = true)
    (t_Left_init : PySem.W.findIn K (.ref CLeft) "__init__" = some (some (.ref f_Left_init)))
    (l_Left_init : K.lookup f_Left_init = some ⟨oc_Left_init, od_Left_init, .func (PySem.W.fnOf "__init__" "Left.__init__" (defArgs s_Left_init) (defBody s_Left_init) (defScope s_Left_init) .none kV_Left_init dc_Left_init pm_Left_init an_Left_init cd_Left_init ct_Left_init), sl_Left_init⟩)
    (c_Left_init : PySem.W.codeIn K cd_Left_init "Left.__init__" = true)
    (k_Left_init : PySem.W.keepIn K (.ref f_Left_init) = true)
    (fn_Left_init : PySem.W.isFn K (.ref f_Left_init) = true)
    (m_Left_init : PySem.W.makesIn K CLeft = true)
    (q_Left_init : PySem.W.keepIn K (.ref CLeft) = true)
    (t_Longest_init : PySem.W.findIn K (.ref CLongest) "__init__" = some (some (.ref f_Longest_init)))
    (l_Longest_init : K.lookup f_Longest_init = some ⟨oc_Longest_init, od_Longest_init, .func (PySem.W.fnOf "__init__" "Longest.__init__" (defArgs s_Longest_init) (defBody s_Longest_init) (defScope s_Longest_init) .none kV_Longest_init dc_Longest_init pm_Longest_init an_Longest_init cd_Longest_init ct_Longest_init), sl_Longest_init⟩)
    (c_Longest_init : PySem.W.codeIn K cd_Longest_init "Longest.__init__" = true)
    (k_Longest_init : PySem.W.keepIn K (.ref f_Longest_init) = true)
    (fn_Longest_init : PySem.W.isFn K (.ref f_Longest_init) = true)
    (m_Longest_init : PySem.W.makesIn K CLongest = true)
    (q_Longest_init : PySem.W.keepIn K (.ref CLongest) = true)
    (t_Missing_init : PySem.W.findIn K (.ref CMissing) "__init__" = some (some (.ref f_Missing_init)))
    (l_Missing_init : K.lookup f_Missing_init = some ⟨oc_Missing_init, od_Missing_init, .func (PySem.W.fnOf "__init__" "Missing.__init__" (defArgs s_Missing_init) (defBody s_Missing_init) (defScope s_Missing_init) .none kV_Missing_init dc_Missing_init pm_Missing_init an_Missing_init cd_Missing_init ct_Missing_init), sl_Missing_init⟩)
    (c_Missing_init : PySem.W.codeIn K cd_Missing_init "Missing.__init__" = true)
    (k_Missing_init : PySem.W.keepIn K (.ref f_Missing_init) = true)
    (fn_Missing_init : PySem.W.isFn K (.ref f_Missing_init) = true)
    (m_Missing_init : PySem.W.makesIn K CMissing = true)
    (q_Missing_init : PySem.W.keepIn K (.ref CMissing) = true)
    (t_Mixed_init : PySem.W.findIn K (.ref CMixed) "__init__" = some (some (.ref f_Mixed_init)))
    (l_Mixed_init : K.lookup f_Mixed_init = some ⟨oc_Mixed_init, od_Mixed_init, .func (PySem.W.fnOf "__init__" "Mixed.__init__" (defArgs s_Mixed_init) (defBody s_Mixed_init) (defScope s_Mixed_init) .none kV_Mixed_init dc_Mixed_init pm_Mixed_init an_Mixed_init cd_Mixed_init ct_Mixed_init), sl_Mixed_init⟩)
    (c_Mixed_init : PySem.W.codeIn K cd_Mixed_init "Mixed.__init__" = true)
    (k_Mixed_init : PySem.W.keepIn K (.ref f_Mixed_init) = true)
    (fn_Mixed_init : PySem.W.isFn K (.ref f_Mixed_init) = true)
    (m_Mixed_init : PySem.W.makesIn K CMixed = true)
    (q_Mixed_init : PySem.W.keepIn K (.ref CMixed) = true)
    (t_Short_init : PySem.W.findIn K (.ref CShort) "__init__" = some (some (.ref f_Short_init)))
    (l_Short_init : K.lookup f_Short_init = some ⟨oc_Short_init, od_Short_init, .func (PySem.W.fnOf "__init__" "Short.__init__" (defArgs s_Short_init) (defBody s_Short_init) (defScope s_Short_init) .none kV_Short_init dc_Short_init pm_Short_init an_Short_init cd_Short_init ct_Short_init), sl_Short_init⟩)
    (c_Short_init : PySem.W.codeIn K cd_Short_init "Short.__init__" = true)
    (k_Short_init : PySem.W.keepIn K (.ref f_Short_init) = true)
    (fn_Short_init : PySem.W.isFn K (.ref f_Short_init) = true)
    (m_Short_init : PySem.W.makesIn K CShort = true)
    (q_Short_init : PySem.W.keepIn K (.ref CShort) = true)
    (t_Unmixed_init : PySem.W.findIn K (.ref CUnmixed) "__init__" = some (some (.ref f_Unmixed_init)))
    (l_Unmixed_init : K.lookup f_Unmixed_init = some ⟨oc_Unmixed_init, od_Unmixed_init, .func (PySem.W.fnOf "__init__" "Unmixed.__init__" (defArgs s_Unmixed_init) (defBody s_Unmixed_init) (defScope s_Unmixed_init) .none kV_Unmixed_init dc_Unmixed_init pm_Unmixed_init an_Unmixed_init cd_Unmixed_init ct_Unmixed_init), sl_Unmixed_init⟩)
    (c_Unmixed_init : PySem.W.codeIn K cd_Unmixed_init "Unmixed.__init__" = true)
    (k_Unmixed_init : PySem.W.keepIn K (.ref f_Unmixed_init) = true)
    (fn_Unmixed_init : PySem.W.isFn K (.ref f_Unmixed_init) = true)
    (m_Unmixed_init : PySem.W.makesIn K CUnmixed = true)
    (q_Unmixed_init : PySem.W.keepIn K (.ref CUnmixed) = true)
    (t_Both_shows : PySem.W.findIn K (.ref CBoth) "shows" = some (some (.ref f_Both_shows)))
    (l_Both_shows : K.lookup f_Both_shows = some ⟨oc_Both_shows, od_Both_shows, .func (PySem.W.fnOf "shows" "Both.shows" (defArgs s_Both_shows) (defBody s_Both_shows) (defScope s_Both_shows) .none kV_Both_shows dc_Both_shows pm_Both_shows an_Both_shows cd_Both_shows ct_Both_shows), sl_Both_shows⟩)
    (c_Both_shows : PySem.W.codeIn K cd_Both_shows "Both.shows" = true)
    (k_Both_shows : PySem.W.keepIn K (.ref f_Both_shows) = true)
    (fn_Both_shows : PySem.W.isFn K (.ref f_Both_shows) = true)
    (t_Left_shows : PySem.W.findIn K (.ref CLeft) "shows" = some (some (.ref f_Left_shows)))
    (l_Left_shows : K.lookup f_Left_shows = some ⟨oc_Left_shows, od_Left_shows, .func (PySem.W.fnOf "shows" "Left.shows" (defArgs s_Left_shows) (defBody s_Left_shows) (defScope s_Left_shows) .none kV_Left_shows dc_Left_shows pm_Left_shows an_Left_shows cd_Left_shows ct_Left_shows), sl_Left_shows⟩)
    (c_Left_shows : PySem.W.codeIn K cd_Left_shows "Left.shows" = true)
    (k_Left_shows : PySem.W.keepIn K (.ref f_Left_shows) = true)
    (fn_Left_shows : PySem.W.isFn K (.ref f_Left_shows) = true)
    (t_Longest_shows : PySem.W.findIn K (.ref CLongest) "shows" = some (some (.ref f_Longest_shows)))
    (l_Longest_shows : K.lookup f_Longest_shows = some ⟨oc_Longest_shows, od_Longest_shows, .func (PySem.W.fnOf "shows" "Longest.shows" (defArgs s_Longest_shows) (defBody s_Longest_shows) (defScope s_Longest_shows) .none kV_Longest_shows dc_Longest_shows pm_Longest_shows an_Longest_shows cd_Longest_shows ct_Longest_shows), sl_Longest_shows⟩)
    (c_Longest_shows : PySem.W.codeIn K cd_Longest_shows "Longest.shows" = true)
    (k_Longest_shows : PySem.W.keepIn K (.ref f_Longest_shows) = true)
    (fn_Longest_shows : PySem.W.isFn K (.ref f_Longest_shows) = true)
    (t_Missing_shows : PySem.W.findIn K (.ref CMissing) "shows" = some (some (.ref f_Missing_shows)))
    (l_Missing_shows : K.lookup f_Missing_shows = some ⟨oc_Missing_shows, od_Missing_shows, .func (PySem.W.fnOf "shows" "Missing.shows" (defArgs s_Missing_shows) (defBody s_Missing_shows) (defScope s_Missing_shows) .none kV_Missing_shows dc_Missing_shows pm_Missing_shows an_Missing_shows cd_Missing_shows ct_Missing_shows), sl_Missing_shows⟩)
    (c_Missing_shows : PySem.W.codeIn K cd_Missing_shows "Missing.shows" = true)
    (k_Missing_shows : PySem.W.keepIn K (.ref f_Missing_shows) = true)
    (fn_Missing_shows : PySem.W.isFn K (.ref f_Missing_shows) = true)
    (t_Mixed_shows : PySem.W.findIn K (.ref CMixed) "shows" = some (some (.ref f_Mixed_shows)))
    (l_Mixed_shows : K.lookup f_Mixed_shows = some ⟨oc_Mixed_shows, od_Mixed_shows, .func (PySem.W.fnOf "shows" "Mixed.shows" (defArgs s_Mixed_shows) (defBody s_Mixed_shows) (defScope s_Mixed_shows) .none kV_Mixed_shows dc_Mixed_shows pm_Mixed_shows an_Mixed_shows cd_Mixed_shows ct_Mixed_shows), sl_Mixed_shows⟩)
    (c_Mixed_shows : PySem.W.codeIn K cd_Mixed_shows "Mixed.shows" = true)
    (k_Mixed_shows : PySem.W.keepIn K (.ref f_Mixed_shows) = true)
    (fn_Mixed_shows : PySem.W.isFn K (.ref f_Mixed_shows) = true)
    (t_Short_shows : PySem.W.findIn K (.ref CShort) "shows" = some (some (.ref f_Short_shows)))
    (l_Short_shows : K.lookup f_Short_shows = some ⟨oc_Short_shows, od_Short_shows, .func (PySem.W.fnOf "shows" "Short.shows" (defArgs s_Short_shows) (defBody s_Short_shows) (defScope s_Short_shows) .none kV_Short_shows dc_Short_shows pm_Short_shows an_Short_shows cd_Short_shows ct_Short_shows), sl_Short_shows⟩)
    (c_Short_shows : PySem.W.codeIn K cd_Short_shows "Short.shows" = true)
    (k_Short_shows : PySem.W.keepIn K (.ref f_Short_shows) = true)
    (fn_Short_shows : PySem.W.isFn K (.ref f_Short_shows) = true)
    (t_Unmixed_shows : PySem.W.findIn K (.ref CUnmixed) "shows" = some (some (.ref f_Unmixed_shows)))
    (l_Unmixed_shows : K.lookup f_Unmixed_shows = some ⟨oc_Unmixed_shows, od_Unmixed_shows, .func (PySem.W.fnOf "shows" "Unmixed.shows" (defArgs s_Unmixed_shows) (defBody s_Unmixed_shows) (defScope s_Unmixed_shows) .none kV_Unmixed_shows dc_Unmixed_shows pm_Unmixed_shows an_Unmixed_shows cd_Unmixed_shows ct_Unmixed_shows), sl_Unmixed_shows⟩)
    (c_Unmixed_shows : PySem.W.codeIn K cd_Unmixed_shows "Unmixed.shows" = true)
    (k_Unmixed_shows : PySem.W.keepIn K (.ref f_Unmixed_shows) = true)
    (fn_Unmixed_shows : PySem.W.isFn K (.ref f_Unmixed_shows) = true)
    (a_left : PySem.W.nsIn K mainGlobals "left" = some (some (.ref f_left)))
    (l_left : K.lookup f_left = some ⟨oc_left, od_left, .func (PySem.W.fnOf "left" "left" (defArgs s_left) (defBody s_left) (defScope s_left) .none kV_left dc_left pm_left an_left cd_left ct_left), sl_left⟩)
    (c_left : PySem.W.codeIn K cd_left "left" = true)
    (k_left : PySem.W.keepIn K (.ref f_left) = true)
    (a_longest : PySem.W.nsIn K mainGlobals "longest" = some (some (.ref f_longest)))
    (l_longest : K.lookup f_longest = some ⟨oc_longest, od_longest, .func (PySem.W.fnOf "longest" "longest" (defArgs s_longest) (defBody s_longest) (defScope s_longest) .none kV_longest dc_longest pm_longest an_longest cd_longest ct_longest), sl_longest⟩)
    (c_longest : PySem.W.codeIn K cd_longest "longest" = true)
    (k_longest : PySem.W.keepIn K (.ref f_longest) = true)
    (a_shortest : PySem.W.nsIn K mainGlobals "shortest" = some (some (.ref f_shortest)))
    (l_shortest : K.lookup f_shortest = some ⟨oc_shortest, od_shortest, .func (PySem.W.fnOf "shortest" "shortest" (defArgs s_shortest) (defBody s_shortest) (defScope s_shortest) .none kV_shortest dc_shortest pm_shortest an_shortest cd_shortest ct_shortest), sl_shortest⟩)
    (c_shortest : PySem.W.codeIn K cd_shortest "shortest" = true)
    (k_shortest : PySem.W.keepIn K (.ref f_shortest) = true)
    (a_missing : PySem.W.nsIn K mainGlobals "missing" = some (some (.ref f_missing)))
    (l_missing : K.lookup f_missing = some ⟨oc_missing, od_missing, .func (PySem.W.fnOf "missing" "missing" (defArgs s_missing) (defBody s_missing) (defScope s_missing) .none kV_missing dc_missing pm_missing an_missing cd_missing ct_missing), sl_missing⟩)
    (c_missing : PySem.W.codeIn K cd_missing "missing" = true)
    (k_missing : PySem.W.keepIn K (.ref f_missing) = true)
    (a_mixed : PySem.W.nsIn K mainGlobals "mixed" = some (some (.ref f_mixed)))
    (l_mixed : K.lookup f_mixed = some ⟨oc_mixed, od_mixed, .func (PySem.W.fnOf "mixed" "mixed" (defArgs s_mixed) (defBody s_mixed) (defScope s_mixed) .none kV_mixed dc_mixed pm_mixed an_mixed cd_mixed ct_mixed), sl_mixed⟩)
    (c_mixed : PySem.W.codeIn K cd_mixed "mixed" = true)
    (k_mixed : PySem.W.keepIn K (.ref f_mixed) = true)
    (a_law_row : PySem.W.nsIn K mainGlobals "_law_row" = some (some (.ref f_law_row)))
    (l_law_row : K.lookup f_law_row = some ⟨oc_law_row, od_law_row, .func (PySem.W.fnOf "_law_row" "_law_row" (defArgs s_law_row) (defBody s_law_row) (defScope s_law_row) .none kV_law_row dc_law_row pm_law_row an_law_row cd_law_row ct_law_row), sl_law_row⟩)
    (c_law_row : PySem.W.codeIn K cd_law_row "_law_row" = true)
    (k_law_row : PySem.W.keepIn K (.ref f_law_row) = true)
    (a_law_stands : PySem.W.nsIn K mainGlobals "_law_stands" = some (some (.ref f_law_stands)))
    (l_law_stands : K.lookup f_law_stands = some ⟨oc_law_stands, od_law_stands, .func (PySem.W.fnOf "_law_stands" "_law_stands" (defArgs s_law_stands) (defBody s_law_stands) (defScope s_law_stands) .none kV_law_stands dc_law_stands pm_law_stands an_law_stands cd_law_stands ct_law_stands), sl_law_stands⟩)
    (c_law_stands : PySem.W.codeIn K cd_law_stands "_law_stands" = true)
    (k_law_stands : PySem.W.keepIn K (.ref f_law_stands) = true)
    (a_law_is_left : PySem.W.nsIn K mainGlobals "_law_is_left" = some (some (.ref f_law_is_left)))
    (l_law_is_left : K.lookup f_law_is_left = some ⟨oc_law_is_left, od_law_is_left, .func (PySem.W.fnOf "_law_is_left" "_law_is_left" (defArgs s_law_is_left) (defBody s_law_is_left) (defScope s_law_is_left) .none kV_law_is_left dc_law_is_left pm_law_is_left an_law_is_left cd_law_is_left ct_law_is_left), sl_law_is_left⟩)
    (c_law_is_left : PySem.W.codeIn K cd_law_is_left "_law_is_left" = true)
    (k_law_is_left : PySem.W.keepIn K (.ref f_law_is_left) = true)
    (a_law_short : PySem.W.nsIn K mainGlobals "_law_short" = some (some (.ref f_law_short)))
    (l_law_short : K.lookup f_law_short = some ⟨oc_law_short, od_law_short, .func (PySem.W.fnOf "_law_short" "_law_short" (defArgs s_law_short) (defBody s_law_short) (defScope s_law_short) .none kV_law_short dc_law_short pm_law_short an_law_short cd_law_short ct_law_short), sl_law_short⟩)
    (c_law_short : PySem.W.codeIn K cd_law_short "_law_short" = true)
    (k_law_short : PySem.W.keepIn K (.ref f_law_short) = true)
    (a_law_table : PySem.W.nsIn K mainGlobals "_law_table" = some (some (.ref f_law_table)))
    (l_law_table : K.lookup f_law_table = some ⟨oc_law_table, od_law_table, .func (PySem.W.fnOf "_law_table" "_law_table" (defArgs s_law_table) (defBody s_law_table) (defScope s_law_table) .none kV_law_table dc_law_table pm_law_table an_law_table cd_law_table ct_law_table), sl_law_table⟩)
    (c_law_table : PySem.W.codeIn K cd_law_table "_law_table" = true)
    (k_law_table : PySem.W.keepIn K (.ref f_law_table) = true)
    (a_law_long : PySem.W.nsIn K mainGlobals "_law_long" = some (some (.ref f_law_long)))
    (l_law_long : K.lookup f_law_long = some ⟨oc_law_long, od_law_long, .func (PySem.W.fnOf "_law_long" "_law_long" (defArgs s_law_long) (defBody s_law_long) (defScope s_law_long) .none kV_law_long dc_law_long pm_law_long an_law_long cd_law_long ct_law_long), sl_law_long⟩)
    (c_law_long : PySem.W.codeIn K cd_law_long "_law_long" = true)
    (k_law_long : PySem.W.keepIn K (.ref f_law_long) = true)
    (a_law_missed : PySem.W.nsIn K mainGlobals "_law_missed" = some (some (.ref f_law_missed)))
    (l_law_missed : K.lookup f_law_missed = some ⟨oc_law_missed, od_law_missed, .func (PySem.W.fnOf "_law_missed" "_law_missed" (defArgs s_law_missed) (defBody s_law_missed) (defScope s_law_missed) .none kV_law_missed dc_law_missed pm_law_missed an_law_missed cd_law_missed ct_law_missed), sl_law_missed⟩)
    (c_law_missed : PySem.W.codeIn K cd_law_missed "_law_missed" = true)
    (k_law_missed : PySem.W.keepIn K (.ref f_law_missed) = true)
    (a_law_is_mixed : PySem.W.nsIn K mainGlobals "_law_is_mixed" = some (some (.ref f_law_is_mixed)))
    (l_law_is_mixed : K.lookup f_law_is_mixed = some ⟨oc_law_is_mixed, od_law_is_mixed, .func (PySem.W.fnOf "_law_is_mixed" "_law_is_mixed" (defArgs s_law_is_mixed) (defBody s_law_is_mixed) (defScope s_law_is_mixed) .none kV_law_is_mixed dc_law_is_mixed pm_law_is_mixed an_law_is_mixed cd_law_is_mixed ct_law_is_mixed), sl_law_is_mixed⟩)
    (c_law_is_mixed : PySem.W.codeIn K cd_law_is_mixed "_law_is_mixed" = true)
    (k_law_is_mixed : PySem.W.keepIn K (.ref f_law_is_mixed) = true)
    (a_law_unmixed : PySem.W.nsIn K mainGlobals "_law_unmixed" = some (some (.ref f_law_unmixed)))
    (l_law_unmixed : K.lookup f_law_unmixed = some ⟨oc_law_unmixed, od_law_unmixed, .func (PySem.W.fnOf "_law_unmixed" "_law_unmixed" (defArgs s_law_unmixed) (defBody s_law_unmixed) (defScope s_law_unmixed) .none kV_law_unmixed dc_law_unmixed pm_law_unmixed an_law_unmixed cd_law_unmixed ct_law_unmixed), sl_law_unmixed⟩)
    (c_law_unmixed : PySem.W.codeIn K cd_law_unmixed "_law_unmixed" = true)
    (k_law_unmixed : PySem.W.keepIn K (.ref f_law_unmixed) = true)
    (a_law_says : PySem.W.nsIn K mainGlobals "_law_says" = some (some (.ref f_law_says)))
    (l_law_says : K.lookup f_law_says = some ⟨oc_law_says, od_law_says, .func (PySem.W.fnOf "_law_says" "_law_says" (defArgs s_law_says) (defBody s_law_says) (defScope s_law_says) .none kV_law_says dc_law_says pm_law_says an_law_says cd_law_says ct_law_says), sl_law_says⟩)
    (c_law_says : PySem.W.codeIn K cd_law_says "_law_says" = true)
    (k_law_says : PySem.W.keepIn K (.ref f_law_says) = true)
    (a_law_bent : PySem.W.nsIn K mainGlobals "_law_bent" = some (some (.ref f_law_bent)))
    (l_law_bent : K.lookup f_law_bent = some ⟨oc_law_bent, od_law_bent, .func (PySem.W.fnOf "_law_bent" "_law_bent" (defArgs s_law_bent) (defBody s_law_bent) (defScope s_law_bent) .none kV_law_bent dc_law_bent pm_law_bent an_law_bent cd_law_bent ct_law_bent), sl_law_bent⟩)
    (c_law_bent : PySem.W.codeIn K cd_law_bent "_law_bent" = true)
    (k_law_bent : PySem.W.keepIn K (.ref f_law_bent) = true)
    (a_law_places_right : PySem.W.nsIn K mainGlobals "_law_places_right" = some (some (.ref f_law_places_right)))
    (l_law_places_right : K.lookup f_law_places_right = some ⟨oc_law_places_right, od_law_places_right, .func (PySem.W.fnOf "_law_places_right" "_law_places_right" (defArgs s_law_places_right) (defBody s_law_places_right) (defScope s_law_places_right) .none kV_law_places_right dc_law_places_right pm_law_places_right an_law_places_right cd_law_places_right ct_law_places_right), sl_law_places_right⟩)
    (c_law_places_right : PySem.W.codeIn K cd_law_places_right "_law_places_right" = true)
    (k_law_places_right : PySem.W.keepIn K (.ref f_law_places_right) = true)
    (a_law_rows_right : PySem.W.nsIn K mainGlobals "_law_rows_right" = some (some (.ref f_law_rows_right)))
    (l_law_rows_right : K.lookup f_law_rows_right = some ⟨oc_law_rows_right, od_law_rows_right, .func (PySem.W.fnOf "_law_rows_right" "_law_rows_right" (defArgs s_law_rows_right) (defBody s_law_rows_right) (defScope s_law_rows_right) .none kV_law_rows_right dc_law_rows_right pm_law_rows_right an_law_rows_right cd_law_rows_right ct_law_rows_right), sl_law_rows_right⟩)
    (c_law_rows_right : PySem.W.codeIn K cd_law_rows_right "_law_rows_right" = true)
    (k_law_rows_right : PySem.W.keepIn K (.ref f_law_rows_right) = true)
    (a_law_tables_right : PySem.W.nsIn K mainGlobals "_law_tables_right" = some (some (.ref f_law_tables_right)))
    (l_law_tables_right : K.lookup f_law_tables_right = some ⟨oc_law_tables_right, od_law_tables_right, .func (PySem.W.fnOf "_law_tables_right" "_law_tables_right" (defArgs s_law_tables_right) (defBody s_law_tables_right) (defScope s_law_tables_right) .none kV_law_tables_right dc_law_tables_right pm_law_tables_right an_law_tables_right cd_law_tables_right ct_law_tables_right), sl_law_tables_right⟩)
    (c_law_tables_right : PySem.W.codeIn K cd_law_tables_right "_law_tables_right" = true)
    (k_law_tables_right : PySem.W.keepIn K (.ref f_law_tables_right) = true)
    (a_law_missing_right : PySem.W.nsIn K mainGlobals "_law_missing_right" = some (some (.ref f_law_missing_right)))
    (l_law_missing_right : K.lookup f_law_missing_right = some ⟨oc_law_missing_right, od_law_missing_right, .func (PySem.W.fnOf "_law_missing_right" "_law_missing_right" (defArgs s_law_missing_right) (defBody s_law_missing_right) (defScope s_law_missing_right) .none kV_law_missing_right dc_law_missing_right pm_law_missing_right an_law_missing_right cd_law_missing_right ct_law_missing_right), sl_law_missing_right⟩)
    (c_law_missing_right : PySem.W.codeIn K cd_law_missing_right "_law_missing_right" = true)
    (k_law_missing_right : PySem.W.keepIn K (.ref f_law_missing_right) = true)
    (a_law_mixed_right : PySem.W.nsIn K mainGlobals "_law_mixed_right" = some (some (.ref f_law_mixed_right)))
    (l_law_mixed_right : K.lookup f_law_mixed_right = some ⟨oc_law_mixed_right, od_law_mixed_right, .func (PySem.W.fnOf "_law_mixed_right" "_law_mixed_right" (defArgs s_law_mixed_right) (defBody s_law_mixed_right) (defScope s_law_mixed_right) .none kV_law_mixed_right dc_law_mixed_right pm_law_mixed_right an_law_mixed_right cd_law_mixed_right ct_law_mixed_right), sl_law_mixed_right⟩)
    (c_law_mixed_right : PySem.W.codeIn K cd_law_mixed_right "_law_mixed_right" = true)
    (k_law_mixed_right : PySem.W.keepIn K (.ref f_law_mixed_right) = true)
    (a_law_few_right : PySem.W.nsIn K mainGlobals "_law_few_right" = some (some (.ref f_law_few_right)))
    (l_law_few_right : K.lookup f_law_few_right = some ⟨oc_law_few_right, od_law_few_right, .func (PySem.W.fnOf "_law_few_right" "_law_few_right" (defArgs s_law_few_right) (defBody s_law_few_right) (defScope s_law_few_right) .none kV_law_few_right dc_law_few_right pm_law_few_right an_law_few_right cd_law_few_right ct_law_few_right), sl_law_few_right⟩)
    (c_law_few_right : PySem.W.codeIn K cd_law_few_right "_law_few_right" = true)
    (k_law_few_right : PySem.W.keepIn K (.ref f_law_few_right) = true)
    (a_law : PySem.W.nsIn K mainGlobals "law" = some (some (.ref f_law)))
    (l_law : K.lookup f_law = some ⟨oc_law, od_law, .func (PySem.W.fnOf "law" "law" (defArgs s_law) (defBody s_law) (defScope s_law) .none kV_law dc_law pm_law an_law cd_law ct_law), sl_law⟩)
    (c_law : PySem.W.codeIn K cd_law "law" = true)
    (k_law : PySem.W.keepIn K (.ref f_law) = true)
    : ∃ fd : FuncData, (∀ (s : Shared) (v : Value), BindsTo s fd ⟨[v], []⟩ [("_law_script", v)]) ∧ ∀ base : Heap, K.In base → base.Ns mainGlobals mg → FnOk l.prog w K mg base CX0 6 fa fd ["_law_script"] (spF K p_law g_law) := by
  have e := hfa.symm.trans (PySem.W.mg_of X G a_law)
  cases e
  have T : Blt mg := ⟨PySem.W.mg_none_of X G n_isinstance, PySem.W.mg_none_of X G n_int, PySem.W.mg_none_of X G n_bool, PySem.W.mg_none_of X G n_list, PySem.W.mg_none_of X G n_tuple, PySem.W.mg_none_of X G n_len, PySem.W.mg_none_of X G n_range, PySem.W.mg_none_of X G n_reversed, PySem.W.mg_none_of X G n_enumerate, PySem.W.mg_none_of X G n_zip, PySem.W.mg_none_of X G n_sum, PySem.W.mg_none_of X G n_min, PySem.W.mg_none_of X G n_max, PySem.W.mg_none_of X G n_all, PySem.W.mg_none_of X G n_any, PySem.W.mg_none_of X G n_set, PySem.W.mg_none_of X G n_sorted⟩
  have L_Both : Kl K CBoth ["row", "mine", "theirs", "table"] := ⟨⟨⟨pg_Both, hd_Both, po_Both, sa_Both⟩, cc_Both, g_get, g_tk, mo_Both⟩, fun f hf => by
    simp only [List.mem_cons, List.not_mem_nil, or_false] at hf
    rcases hf with rfl | rfl | rfl | rfl
    · exact no_Both_row
    · exact no_Both_mine
    · exact no_Both_theirs
    · exact no_Both_table⟩
  have L_Left : Kl K CLeft ["places"] := ⟨⟨⟨pg_Left, hd_Left, po_Left, sa_Left⟩, cc_Left, g_get, g_tk, mo_Left⟩, fun f hf => by
    simp only [List.mem_cons, List.not_mem_nil, or_false] at hf
    rcases hf with rfl
    exact no_Left_places⟩
  have L_Longest : Kl K CLongest ["mine", "theirs", "table"] := ⟨⟨⟨pg_Longest, hd_Longest, po_Longest, sa_Longest⟩, cc_Longest, g_get, g_tk, mo_Longest⟩, fun f hf => by
    simp only [List.mem_cons, List.not_mem_nil, or_false] at hf
    rcases hf with rfl | rfl | rfl
    · exact no_Longest_mine
    · exact no_Longest_theirs
    · exact no_Longest_table⟩
  have L_Missing : Kl K CMissing ["cuts", "word"] := ⟨⟨⟨pg_Missing, hd_Missing, po_Missing, sa_Missing⟩, cc_Missing, g_get, g_tk, mo_Missing⟩, fun f hf => by
    simp only [List.mem_cons, List.not_mem_nil, or_false] at hf
    rcases hf with rfl | rfl
    · exact no_Missing_cuts
    · exact no_Missing_word⟩
  have L_Mixed : Kl K CMixed ["places"] := ⟨⟨⟨pg_Mixed, hd_Mixed, po_Mixed, sa_Mixed⟩, cc_Mixed, g_get, g_tk, mo_Mixed⟩, fun f hf => by
    simp only [List.mem_cons, List.not_mem_nil, or_false] at hf
    rcases hf with rfl
    exact no_Mixed_places⟩
  have L_Short : Kl K CShort ["places"] := ⟨⟨⟨pg_Short, hd_Short, po_Short, sa_Short⟩, cc_Short, g_get, g_tk, mo_Short⟩, fun f hf => by
    simp only [List.mem_cons, List.not_mem_nil, or_false] at hf
    rcases hf with rfl
    exact no_Short_places⟩
  have L_Unmixed : Kl K CUnmixed ["pairs"] := ⟨⟨⟨pg_Unmixed, hd_Unmixed, po_Unmixed, sa_Unmixed⟩, cc_Unmixed, g_get, g_tk, mo_Unmixed⟩, fun f hf => by
    simp only [List.mem_cons, List.not_mem_nil, or_false] at hf
    rcases hf with rfl
    exact no_Unmixed_pairs⟩
  refine ⟨PySem.W.fnOf "law" "law" (defArgs s_law) (defBody s_law) (defScope s_law) .none kV_law dc_law pm_law an_law cd_law ct_law, fun s v => .of_eq rfl, fun base _ _ => ?_⟩
  have F_is_number := fun_mk (st := s_is_number) l_is_number c_is_number k_is_number
  have C_is_number : Callee l.prog w K mg base 1 "is_number" p_is_number g_is_number := ⟨⟨_, _, _, ok_is_number F_is_number T , PySem.W.mg_of X G a_is_number, k_is_number, F_is_number.binds (ps := ["thing"]) fun _ _ _ _ _ _ us hl => match us, hl with | [_], _ => rfl⟩⟩
  have F_check_row := fun_mk (st := s_check_row) l_check_row c_check_row k_check_row
  have C_check_row : Callee l.prog w K mg base 2 "check_row" p_check_row g_check_row := ⟨⟨_, _, _, ok_check_row F_check_row T C_is_number, PySem.W.mg_of X G a_check_row, k_check_row, F_check_row.binds (ps := ["row"]) fun _ _ _ _ _ _ us hl => match us, hl with | [_], _ => rfl⟩⟩
  have F_check_kinds := fun_mk (st := s_check_kinds) l_check_kinds c_check_kinds k_check_kinds
  have C_check_kinds : Callee l.prog w K mg base 2 "check_kinds" p_check_kinds g_check_kinds := ⟨⟨_, _, _, ok_check_kinds F_check_kinds T C_is_number, PySem.W.mg_of X G a_check_kinds, k_check_kinds, F_check_kinds.binds (ps := ["kinds"]) fun _ _ _ _ _ _ us hl => match us, hl with | [_], _ => rfl⟩⟩
  have F_earliest := fun_mk (st := s_earliest) l_earliest c_earliest k_earliest
  have C_earliest : Callee l.prog w K mg base 1 "earliest" p_earliest g_earliest := ⟨⟨_, _, _, ok_earliest F_earliest T , PySem.W.mg_of X G a_earliest, k_earliest, F_earliest.binds (ps := ["row", "other"]) fun _ _ _ _ _ _ us hl => match us, hl with | [_, _], _ => rfl⟩⟩
  have F_are_rising := fun_mk (st := s_are_rising) l_are_rising c_are_rising k_are_rising
  have C_are_rising : Callee l.prog w K mg base 1 "are_rising" p_are_rising g_are_rising := ⟨⟨_, _, _, ok_are_rising F_are_rising T , PySem.W.mg_of X G a_are_rising, k_are_rising, F_are_rising.binds (ps := ["places", "many"]) fun _ _ _ _ _ _ us hl => match us, hl with | [_, _], _ => rfl⟩⟩
  have F_stands := fun_mk (st := s_stands) l_stands c_stands k_stands
  have C_stands : Callee l.prog w K mg base 2 "stands" p_stands g_stands := ⟨⟨_, _, _, ok_stands F_stands T C_are_rising, PySem.W.mg_of X G a_stands, k_stands, F_stands.binds (ps := ["row", "places", "other"]) fun _ _ _ _ _ _ us hl => match us, hl with | [_, _, _], _ => rfl⟩⟩
  have F_is_table := fun_mk (st := s_is_table) l_is_table c_is_table k_is_table
  have C_is_table : Callee l.prog w K mg base 1 "is_table" p_is_table g_is_table := ⟨⟨_, _, _, ok_is_table F_is_table T , PySem.W.mg_of X G a_is_table, k_is_table, F_is_table.binds (ps := ["one", "other", "table"]) fun _ _ _ _ _ _ us hl => match us, hl with | [_, _, _], _ => rfl⟩⟩
  have F_table_of := fun_mk (st := s_table_of) l_table_of c_table_of k_table_of
  have C_table_of : Callee l.prog w K mg base 1 "table_of" p_table_of g_table_of := ⟨⟨_, _, _, ok_table_of F_table_of T , PySem.W.mg_of X G a_table_of, k_table_of, F_table_of.binds (ps := ["one", "other"]) fun _ _ _ _ _ _ us hl => match us, hl with | [_, _], _ => rfl⟩⟩
  have F_common_places := fun_mk (st := s_common_places) l_common_places c_common_places k_common_places
  have C_common_places : Callee l.prog w K mg base 1 "common_places" p_common_places g_common_places := ⟨⟨_, _, _, ok_common_places F_common_places T , PySem.W.mg_of X G a_common_places, k_common_places, F_common_places.binds (ps := ["one", "other", "table"]) fun _ _ _ _ _ _ us hl => match us, hl with | [_, _, _], _ => rfl⟩⟩
  have F_steps_on := fun_mk (st := s_steps_on) l_steps_on c_steps_on k_steps_on
  have C_steps_on : CalleeU l.prog w K mg base 1 "steps_on" p_steps_on g_steps_on := ⟨⟨_, _, _, ok_steps_on F_steps_on T , PySem.W.mg_of X G a_steps_on, k_steps_on, F_steps_on.binds (ps := ["row", "one", "other", "i", "j"]) fun _ _ _ _ _ _ us hl => match us, hl with | [_, _, _, _, _], _ => rfl⟩⟩
  have F_Both_init := fun_mk (st := s_Both_init) l_Both_init c_Both_init k_Both_init
  have M_Both : MakerU l.prog w K mg base 1 "Both" CBoth p_Both_init (g_Both_init CBoth) := ⟨PySem.W.mg_of X G a_Both, ⟨_, _, _, ok_Both_init F_Both_init T L_Both, ⟨m_Both_init, t_Both_init, fn_Both_init, q_Both_init⟩, F_Both_init.binds (ps := ["self", "row", "mine", "theirs", "table"]) fun _ _ _ _ _ _ us hl => match us, hl with | [_, _, _, _, _], _ => rfl⟩⟩
  have F_Left_init := fun_mk (st := s_Left_init) l_Left_init c_Left_init k_Left_init
  have M_Left : MakerU l.prog w K mg base 1 "Left" CLeft p_Left_init (g_Left_init CLeft) := ⟨PySem.W.mg_of X G a_Left, ⟨_, _, _, ok_Left_init F_Left_init T L_Left, ⟨m_Left_init, t_Left_init, fn_Left_init, q_Left_init⟩, F_Left_init.binds (ps := ["self", "places"]) fun _ _ _ _ _ _ us hl => match us, hl with | [_, _], _ => rfl⟩⟩
  have F_Longest_init := fun_mk (st := s_Longest_init) l_Longest_init c_Longest_init k_Longest_init
  have M_Longest : MakerU l.prog w K mg base 1 "Longest" CLongest p_Longest_init (g_Longest_init CLongest) := ⟨PySem.W.mg_of X G a_Longest, ⟨_, _, _, ok_Longest_init F_Longest_init T L_Longest, ⟨m_Longest_init, t_Longest_init, fn_Longest_init, q_Longest_init⟩, F_Longest_init.binds (ps := ["self", "mine", "theirs", "table"]) fun _ _ _ _ _ _ us hl => match us, hl with | [_, _, _, _], _ => rfl⟩⟩
  have F_Missing_init := fun_mk (st := s_Missing_init) l_Missing_init c_Missing_init k_Missing_init
  have M_Missing : MakerU l.prog w K mg base 1 "Missing" CMissing p_Missing_init (g_Missing_init CMissing) := ⟨PySem.W.mg_of X G a_Missing, ⟨_, _, _, ok_Missing_init F_Missing_init T L_Missing, ⟨m_Missing_init, t_Missing_init, fn_Missing_init, q_Missing_init⟩, F_Missing_init.binds (ps := ["self", "cuts", "word"]) fun _ _ _ _ _ _ us hl => match us, hl with | [_, _, _], _ => rfl⟩⟩
  have F_Mixed_init := fun_mk (st := s_Mixed_init) l_Mixed_init c_Mixed_init k_Mixed_init
  have M_Mixed : MakerU l.prog w K mg base 1 "Mixed" CMixed p_Mixed_init (g_Mixed_init CMixed) := ⟨PySem.W.mg_of X G a_Mixed, ⟨_, _, _, ok_Mixed_init F_Mixed_init T L_Mixed, ⟨m_Mixed_init, t_Mixed_init, fn_Mixed_init, q_Mixed_init⟩, F_Mixed_init.binds (ps := ["self", "places"]) fun _ _ _ _ _ _ us hl => match us, hl with | [_, _], _ => rfl⟩⟩
  have F_Short_init := fun_mk (st := s_Short_init) l_Short_init c_Short_init k_Short_init
  have M_Short : MakerU l.prog w K mg base 1 "Short" CShort p_Short_init (g_Short_init CShort) := ⟨PySem.W.mg_of X G a_Short, ⟨_, _, _, ok_Short_init F_Short_init T L_Short, ⟨m_Short_init, t_Short_init, fn_Short_init, q_Short_init⟩, F_Short_init.binds (ps := ["self", "places"]) fun _ _ _ _ _ _ us hl => match us, hl with | [_, _], _ => rfl⟩⟩
  have F_Unmixed_init := fun_mk (st := s_Unmixed_init) l_Unmixed_init c_Unmixed_init k_Unmixed_init
  have M_Unmixed : MakerU l.prog w K mg base 1 "Unmixed" CUnmixed p_Unmixed_init (g_Unmixed_init CUnmixed) := ⟨PySem.W.mg_of X G a_Unmixed, ⟨_, _, _, ok_Unmixed_init F_Unmixed_init T L_Unmixed, ⟨m_Unmixed_init, t_Unmixed_init, fn_Unmixed_init, q_Unmixed_init⟩, F_Unmixed_init.binds (ps := ["self", "pairs"]) fun _ _ _ _ _ _ us hl => match us, hl with | [_, _], _ => rfl⟩⟩
  have F_Both_shows := fun_mk (st := s_Both_shows) l_Both_shows c_Both_shows k_Both_shows
  have M_Both_shows : CalleeM l.prog w K mg base 3 CBoth "shows" (p_Both_shows CBoth) g_Both_shows := ⟨L_Both.i.cl, ⟨_, _, _, ok_Both_shows F_Both_shows T L_Both C_stands C_is_table, ⟨t_Both_shows, fn_Both_shows, k_Both_shows⟩, F_Both_shows.binds (ps := ["self", "one", "other"]) fun _ _ _ _ _ _ us hl => match us, hl with | [_, _, _], _ => rfl⟩⟩
  have F_Left_shows := fun_mk (st := s_Left_shows) l_Left_shows c_Left_shows k_Left_shows
  have M_Left_shows : CalleeM l.prog w K mg base 3 CLeft "shows" (p_Left_shows CLeft) g_Left_shows := ⟨L_Left.i.cl, ⟨_, _, _, ok_Left_shows F_Left_shows T L_Left C_stands, ⟨t_Left_shows, fn_Left_shows, k_Left_shows⟩, F_Left_shows.binds (ps := ["self", "row", "other"]) fun _ _ _ _ _ _ us hl => match us, hl with | [_, _, _], _ => rfl⟩⟩
  have F_Longest_shows := fun_mk (st := s_Longest_shows) l_Longest_shows c_Longest_shows k_Longest_shows
  have M_Longest_shows : CalleeM l.prog w K mg base 2 CLongest "shows" (p_Longest_shows CLongest) g_Longest_shows := ⟨L_Longest.i.cl, ⟨_, _, _, ok_Longest_shows F_Longest_shows T L_Longest C_are_rising C_is_table, ⟨t_Longest_shows, fn_Longest_shows, k_Longest_shows⟩, F_Longest_shows.binds (ps := ["self", "one", "other"]) fun _ _ _ _ _ _ us hl => match us, hl with | [_, _, _], _ => rfl⟩⟩
  have F_Missing_shows := fun_mk (st := s_Missing_shows) l_Missing_shows c_Missing_shows k_Missing_shows
  have M_Missing_shows : CalleeM l.prog w K mg base 2 CMissing "shows" (p_Missing_shows CMissing) g_Missing_shows := ⟨L_Missing.i.cl, ⟨_, _, _, ok_Missing_shows F_Missing_shows T L_Missing C_earliest, ⟨t_Missing_shows, fn_Missing_shows, k_Missing_shows⟩, F_Missing_shows.binds (ps := ["self", "row", "kinds"]) fun _ _ _ _ _ _ us hl => match us, hl with | [_, _, _], _ => rfl⟩⟩
  have F_Mixed_shows := fun_mk (st := s_Mixed_shows) l_Mixed_shows c_Mixed_shows k_Mixed_shows
  have M_Mixed_shows : CalleeM l.prog w K mg base 3 CMixed "shows" (p_Mixed_shows CMixed) g_Mixed_shows := ⟨L_Mixed.i.cl, ⟨_, _, _, ok_Mixed_shows F_Mixed_shows T L_Mixed C_stands, ⟨t_Mixed_shows, fn_Mixed_shows, k_Mixed_shows⟩, F_Mixed_shows.binds (ps := ["self", "row", "one", "other"]) fun _ _ _ _ _ _ us hl => match us, hl with | [_, _, _, _], _ => rfl⟩⟩
  have F_Short_shows := fun_mk (st := s_Short_shows) l_Short_shows c_Short_shows k_Short_shows
  have M_Short_shows : CalleeM l.prog w K mg base 3 CShort "shows" (p_Short_shows CShort) g_Short_shows := ⟨L_Short.i.cl, ⟨_, _, _, ok_Short_shows F_Short_shows T L_Short C_stands, ⟨t_Short_shows, fn_Short_shows, k_Short_shows⟩, F_Short_shows.binds (ps := ["self", "row", "other"]) fun _ _ _ _ _ _ us hl => match us, hl with | [_, _, _], _ => rfl⟩⟩
  have F_Unmixed_shows := fun_mk (st := s_Unmixed_shows) l_Unmixed_shows c_Unmixed_shows k_Unmixed_shows
  have M_Unmixed_shows : CalleeM l.prog w K mg base 2 CUnmixed "shows" (p_Unmixed_shows CUnmixed) g_Unmixed_shows := ⟨L_Unmixed.i.cl, ⟨_, _, _, ok_Unmixed_shows F_Unmixed_shows T L_Unmixed C_steps_on.callee, ⟨t_Unmixed_shows, fn_Unmixed_shows, k_Unmixed_shows⟩, F_Unmixed_shows.binds (ps := ["self", "row", "one", "other"]) fun _ _ _ _ _ _ us hl => match us, hl with | [_, _, _, _], _ => rfl⟩⟩
  have F_left := fun_mk (st := s_left) l_left c_left k_left
  have C_left : CalleeU l.prog w K mg base 3 "left" p_left (g_left CLeft CShort) := ⟨⟨_, _, _, ok_left F_left T C_check_row C_earliest M_Left M_Short, PySem.W.mg_of X G a_left, k_left, F_left.binds (ps := ["row", "other"]) fun _ _ _ _ _ _ us hl => match us, hl with | [_, _], _ => rfl⟩⟩
  have F_longest := fun_mk (st := s_longest) l_longest c_longest k_longest
  have C_longest : CalleeU l.prog w K mg base 3 "longest" p_longest (g_longest CLongest) := ⟨⟨_, _, _, ok_longest F_longest T C_check_row C_table_of C_common_places M_Longest, PySem.W.mg_of X G a_longest, k_longest, F_longest.binds (ps := ["one", "other"]) fun _ _ _ _ _ _ us hl => match us, hl with | [_, _], _ => rfl⟩⟩
  have F_shortest := fun_mk (st := s_shortest) l_shortest c_shortest k_shortest
  have C_shortest : CalleeUR l.prog w K mg base 3 "shortest" p_shortest (r_shortest CBoth) := ⟨⟨_, _, _, ok_shortest F_shortest T C_check_row C_table_of C_common_places M_Both, PySem.W.mg_of X G a_shortest, k_shortest, F_shortest.binds (ps := ["one", "other"]) fun _ _ _ _ _ _ us hl => match us, hl with | [_, _], _ => rfl⟩⟩
  have F_missing := fun_mk (st := s_missing) l_missing c_missing k_missing
  have C_missing : CalleeUR l.prog w K mg base 3 "missing" p_missing (r_missing CMissing) := ⟨⟨_, _, _, ok_missing F_missing T C_check_row C_check_kinds M_Missing, PySem.W.mg_of X G a_missing, k_missing, F_missing.binds (ps := ["row", "kinds"]) fun _ _ _ _ _ _ us hl => match us, hl with | [_, _], _ => rfl⟩⟩
  have F_mixed := fun_mk (st := s_mixed) l_mixed c_mixed k_mixed
  have C_mixed : CalleeUR l.prog w K mg base 3 "mixed" p_mixed (r_mixed CMixed CUnmixed) := ⟨⟨_, _, _, ok_mixed F_mixed T C_check_row C_steps_on.callee M_Mixed M_Unmixed, PySem.W.mg_of X G a_mixed, k_mixed, F_mixed.binds (ps := ["row", "one", "other"]) fun _ _ _ _ _ _ us hl => match us, hl with | [_, _, _], _ => rfl⟩⟩
  have F_law_row := fun_mk (st := s_law_row) l_law_row c_law_row k_law_row
  have C_law_row : Callee l.prog w K mg base 1 "_law_row" p_law_row g_law_row := ⟨⟨_, _, _, ok_law_row F_law_row T , PySem.W.mg_of X G a_law_row, k_law_row, F_law_row.binds (ps := ["_law_cells", "_law_code"]) fun _ _ _ _ _ _ us hl => match us, hl with | [_, _], _ => rfl⟩⟩
  have F_law_stands := fun_mk (st := s_law_stands) l_law_stands c_law_stands k_law_stands
  have C_law_stands : Callee l.prog w K mg base 1 "_law_stands" p_law_stands g_law_stands := ⟨⟨_, _, _, ok_law_stands F_law_stands T , PySem.W.mg_of X G a_law_stands, k_law_stands, F_law_stands.binds (ps := ["_law_row_here", "_law_places", "_law_other"]) fun _ _ _ _ _ _ us hl => match us, hl with | [_, _, _], _ => rfl⟩⟩
  have F_law_is_left := fun_mk (st := s_law_is_left) l_law_is_left c_law_is_left k_law_is_left
  have C_law_is_left : Callee l.prog w K mg base 1 "_law_is_left" p_law_is_left g_law_is_left := ⟨⟨_, _, _, ok_law_is_left F_law_is_left T , PySem.W.mg_of X G a_law_is_left, k_law_is_left, F_law_is_left.binds (ps := ["_law_row_here", "_law_other"]) fun _ _ _ _ _ _ us hl => match us, hl with | [_, _], _ => rfl⟩⟩
  have F_law_short := fun_mk (st := s_law_short) l_law_short c_law_short k_law_short
  have C_law_short : Callee l.prog w K mg base 2 "_law_short" p_law_short g_law_short := ⟨⟨_, _, _, ok_law_short F_law_short T C_law_stands, PySem.W.mg_of X G a_law_short, k_law_short, F_law_short.binds (ps := ["_law_row_here", "_law_other", "_law_places"]) fun _ _ _ _ _ _ us hl => match us, hl with | [_, _, _], _ => rfl⟩⟩
  have F_law_table := fun_mk (st := s_law_table) l_law_table c_law_table k_law_table
  have C_law_table : Callee l.prog w K mg base 1 "_law_table" p_is_table g_is_table := ⟨⟨_, _, _, ok_law_table F_law_table T , PySem.W.mg_of X G a_law_table, k_law_table, F_law_table.binds (ps := ["_law_one", "_law_other", "_law_table_here"]) fun _ _ _ _ _ _ us hl => match us, hl with | [_, _, _], _ => rfl⟩⟩
  have F_law_long := fun_mk (st := s_law_long) l_law_long c_law_long k_law_long
  have C_law_long : Callee l.prog w K mg base 2 "_law_long" p_law_long g_law_long := ⟨⟨_, _, _, ok_law_long F_law_long T C_law_stands C_law_table, PySem.W.mg_of X G a_law_long, k_law_long, F_law_long.binds (ps := ["_law_one", "_law_other", "_law_mine", "_law_theirs", "_law_table_here"]) fun _ _ _ _ _ _ us hl => match us, hl with | [_, _, _, _, _], _ => rfl⟩⟩
  have F_law_missed := fun_mk (st := s_law_missed) l_law_missed c_law_missed k_law_missed
  have C_law_missed : Callee l.prog w K mg base 2 "_law_missed" p_law_missed g_law_missed := ⟨⟨_, _, _, ok_law_missed F_law_missed T C_law_is_left, PySem.W.mg_of X G a_law_missed, k_law_missed, F_law_missed.binds (ps := ["_law_row_here", "_law_kinds", "_law_cuts", "_law_word"]) fun _ _ _ _ _ _ us hl => match us, hl with | [_, _, _, _], _ => rfl⟩⟩
  have F_law_is_mixed := fun_mk (st := s_law_is_mixed) l_law_is_mixed c_law_is_mixed k_law_is_mixed
  have C_law_is_mixed : Callee l.prog w K mg base 2 "_law_is_mixed" p_law_is_mixed g_law_is_mixed := ⟨⟨_, _, _, ok_law_is_mixed F_law_is_mixed T C_law_stands, PySem.W.mg_of X G a_law_is_mixed, k_law_is_mixed, F_law_is_mixed.binds (ps := ["_law_row_here", "_law_one", "_law_other", "_law_places"]) fun _ _ _ _ _ _ us hl => match us, hl with | [_, _, _, _], _ => rfl⟩⟩
  have F_law_unmixed := fun_mk (st := s_law_unmixed) l_law_unmixed c_law_unmixed k_law_unmixed
  have C_law_unmixed : Callee l.prog w K mg base 1 "_law_unmixed" p_law_unmixed g_law_unmixed := ⟨⟨_, _, _, ok_law_unmixed F_law_unmixed T , PySem.W.mg_of X G a_law_unmixed, k_law_unmixed, F_law_unmixed.binds (ps := ["_law_row_here", "_law_one", "_law_other", "_law_pairs"]) fun _ _ _ _ _ _ us hl => match us, hl with | [_, _, _, _], _ => rfl⟩⟩
  have F_law_says := fun_mk (st := s_law_says) l_law_says c_law_says k_law_says
  have C_law_says : Callee l.prog w K mg base 1 "_law_says" p_law_says g_law_says := ⟨⟨_, _, _, ok_law_says F_law_says T , PySem.W.mg_of X G a_law_says, k_law_says, F_law_says.binds (ps := ["_law_said", "_law_due"]) fun _ _ _ _ _ _ us hl => match us, hl with | [_, _], _ => rfl⟩⟩
  have F_law_bent := fun_mk (st := s_law_bent) l_law_bent c_law_bent k_law_bent
  have C_law_bent : CalleeU l.prog w K mg base 1 "_law_bent" p_law_bent g_law_bent := ⟨⟨_, _, _, ok_law_bent F_law_bent T , PySem.W.mg_of X G a_law_bent, k_law_bent, F_law_bent.binds (ps := ["_law_some", "_law_script"]) fun _ _ _ _ _ _ us hl => match us, hl with | [_, _], _ => rfl⟩⟩
  have F_law_places_right := fun_mk (st := s_law_places_right) l_law_places_right c_law_places_right k_law_places_right
  have C_law_places_right : Callee l.prog w K mg base 4 "_law_places_right" p_law_places_right g_law_places_right := ⟨⟨_, _, _, ok_law_places_right F_law_places_right T L_Left L_Short M_Left_shows M_Short_shows C_left M_Left M_Short C_law_bent C_law_says C_law_stands C_law_short, PySem.W.mg_of X G a_law_places_right, k_law_places_right, F_law_places_right.binds (ps := ["_law_row_here", "_law_other", "_law_script"]) fun _ _ _ _ _ _ us hl => match us, hl with | [_, _, _], _ => rfl⟩⟩
  have F_law_rows_right := fun_mk (st := s_law_rows_right) l_law_rows_right c_law_rows_right k_law_rows_right
  have C_law_rows_right : Callee l.prog w K mg base 4 "_law_rows_right" (p_law_rows_right CBoth) g_law_rows_right := ⟨⟨_, _, _, ok_law_rows_right F_law_rows_right T L_Both M_Both_shows M_Both C_law_says C_law_stands C_law_table, PySem.W.mg_of X G a_law_rows_right, k_law_rows_right, F_law_rows_right.binds (ps := ["_law_one", "_law_other", "_law_both", "_law_table_here"]) fun _ _ _ _ _ _ us hl => match us, hl with | [_, _, _, _], _ => rfl⟩⟩
  have F_law_tables_right := fun_mk (st := s_law_tables_right) l_law_tables_right c_law_tables_right k_law_tables_right
  have C_law_tables_right : Callee l.prog w K mg base 5 "_law_tables_right" p_law_tables_right g_law_tables_right := ⟨⟨_, _, _, ok_law_tables_right F_law_tables_right T L_Longest M_Longest_shows M_Longest C_longest C_shortest C_law_bent C_law_says C_law_long C_law_rows_right, PySem.W.mg_of X G a_law_tables_right, k_law_tables_right, F_law_tables_right.binds (ps := ["_law_one", "_law_other", "_law_script"]) fun _ _ _ _ _ _ us hl => match us, hl with | [_, _, _], _ => rfl⟩⟩
  have F_law_missing_right := fun_mk (st := s_law_missing_right) l_law_missing_right c_law_missing_right k_law_missing_right
  have C_law_missing_right : Callee l.prog w K mg base 4 "_law_missing_right" p_law_missing_right g_law_missing_right := ⟨⟨_, _, _, ok_law_missing_right F_law_missing_right T L_Missing M_Missing_shows M_Missing C_missing C_law_bent C_law_says C_law_missed, PySem.W.mg_of X G a_law_missing_right, k_law_missing_right, F_law_missing_right.binds (ps := ["_law_row_here", "_law_script"]) fun _ _ _ _ _ _ us hl => match us, hl with | [_, _], _ => rfl⟩⟩
  have F_law_mixed_right := fun_mk (st := s_law_mixed_right) l_law_mixed_right c_law_mixed_right k_law_mixed_right
  have C_law_mixed_right : Callee l.prog w K mg base 4 "_law_mixed_right" p_law_mixed_right g_law_mixed_right := ⟨⟨_, _, _, ok_law_mixed_right F_law_mixed_right T (PySem.W.mg_of X G a_Mixed) (PySem.W.mg_of X G a_Unmixed) L_Mixed L_Unmixed i_Mixed_Mixed i_Mixed_Unmixed i_Unmixed_Unmixed i_Unmixed_Mixed M_Mixed_shows M_Unmixed_shows M_Mixed M_Unmixed C_mixed C_law_bent C_law_says C_law_is_mixed C_law_unmixed, PySem.W.mg_of X G a_law_mixed_right, k_law_mixed_right, F_law_mixed_right.binds (ps := ["_law_row_here", "_law_one", "_law_other", "_law_script"]) fun _ _ _ _ _ _ us hl => match us, hl with | [_, _, _, _], _ => rfl⟩⟩
  have F_law_few_right := fun_mk (st := s_law_few_right) l_law_few_right c_law_few_right k_law_few_right
  have C_law_few_right : Callee l.prog w K mg base 4 "_law_few_right" p_law_few_right g_law_few_right := ⟨⟨_, _, _, ok_law_few_right F_law_few_right T M_Left_shows M_Short_shows M_Missing_shows M_Unmixed_shows M_Mixed_shows M_Longest_shows M_Left M_Short M_Missing M_Unmixed M_Mixed M_Longest C_law_says, PySem.W.mg_of X G a_law_few_right, k_law_few_right, F_law_few_right.binds (ps := []) fun _ _ _ _ _ _ us hl => match us, hl with | [], _ => rfl⟩⟩
  have F_law := fun_mk (st := s_law) l_law c_law k_law
  exact ok_law F_law T C_law_row C_law_few_right C_law_places_right C_law_tables_right C_law_missing_right C_law_mixed_right
theorem spLaw_ok (K : PySem.W.Frag) (H : Hp) (a : Addr) (ns : List Int) (hl : ns.length ≤ 63) (h : SqL K H a (ns.map V.int)) : spF K p_law g_law [.ref a] H (fun v _ => v = .bl true) fun _ _ _ => False :=
  ⟨[.scr ns], .cons (.scr h) .nil, ⟨ns, rfl, hl⟩, fun v H' Hn _ _ _ rv => by cases rv; rfl⟩
theorem walk {l : PySem.W.OpenLaw} {q : Program} {loose : List Str} {XP : (Str → Option Value) → Heap → Prop} {YP : World → Heap → Prop} {d : DefRec} {K : Params → PySem.W.Frag} (hn : l.most = some 63) (hdf : d.params.defaults = [])
    (hY : ∀ (w : World) (h : Heap), YP w h → (K w.params).In h)
    (F : ∀ (w : World) (mg : Str → Option Value) (fa : Addr) (h : Heap), (K w.params).In h → h.Ns mainGlobals mg → mg d.name = some (.ref fa) →
      ∃ fd : FuncData, (∀ (s : Shared) (u : Value), BindsTo s fd ⟨[u], []⟩ [("_law_script", u)]) ∧ ∀ base : Heap, (K w.params).In base → base.Ns mainGlobals mg → FnOk l.prog w (K w.params) mg base CX0 6 fa fd ["_law_script"] (spF (K w.params) p_law g_law)) :
    PySem.W.WalkO q loose XP YP l.row.toRowW d [] (fun f vs => PySem.call f vs) :=
  L2.walk_of (n := 63) (k := 6) (x := "_law_script") (CX := fun _ => CX0) (sp := fun w => spF (K w.params) p_law g_law) hn (by decide) hdf ⟨rfl, by decide, by decide⟩ hY F (fun w H a ns hl _ hS => spLaw_ok _ H a ns hl hS) fun _ _ _ _ _ z => z
end Kc
open PySem PySem.W PyProof.Rows
set_option maxRecDepth 100000 in
set_option maxHeartbeats 0 in
theorem PySem.Challenge.cw_leftin_k07_answers_by_hand_holds : PySem.Challenge.rw_leftin_k07_answers_by_hand.Holds := by
  w_on; o_law; k_head; (case hw => w_witness2)
  k_fill
  refine Kc.walk (l := PySem.Challenge.rw_leftin_k07_answers_by_hand) rfl rfl (fun w h Y => PySem.W.kIn_of Y) ?F
  case F =>
    intro w mg fa h KX G hmg
    refine' Kc.all_mk KX G hmg ?n_isinstance ?n_int ?n_bool ?n_list ?n_tuple ?n_len ?n_range ?n_reversed ?n_enumerate ?n_zip ?n_sum ?n_min ?n_max ?n_all ?n_any ?n_set ?n_sorted ?g_get ?g_tk ?a_Both ?pg_Both ?hd_Both ?po_Both ?sa_Both ?cc_Both ?mo_Both ?no_Both_row ?no_Both_mine ?no_Both_theirs ?no_Both_table ?a_Left ?pg_Left ?hd_Left ?po_Left ?sa_Left ?cc_Left ?mo_Left ?no_Left_places ?a_Longest ?pg_Longest ?hd_Longest ?po_Longest ?sa_Longest ?cc_Longest ?mo_Longest ?no_Longest_mine ?no_Longest_theirs ?no_Longest_table ?a_Missing ?pg_Missing ?hd_Missing ?po_Missing ?sa_Missing ?cc_Missing ?mo_Missing ?no_Missing_cuts ?no_Missing_word ?a_Mixed ?pg_Mixed ?hd_Mixed ?po_Mixed ?sa_Mixed ?cc_Mixed ?mo_Mixed ?no_Mixed_places ?a_Short ?pg_Short ?hd_Short ?po_Short ?sa_Short ?cc_Short ?mo_Short ?no_Short_places ?a_Unmixed ?pg_Unmixed ?hd_Unmixed ?po_Unmixed ?sa_Unmixed ?cc_Unmixed ?mo_Unmixed ?no_Unmixed_pairs ?i_Mixed_Mixed ?i_Mixed_Unmixed ?i_Unmixed_Unmixed ?i_Unmixed_Mixed ?a_is_number ?l_is_number ?c_is_number ?k_is_number ?a_check_row ?l_check_row ?c_check_row ?k_check_row ?a_check_kinds ?l_check_kinds ?c_check_kinds ?k_check_kinds ?a_earliest ?l_earliest ?c_earliest ?k_earliest ?a_are_rising ?l_are_rising ?c_are_rising ?k_are_rising ?a_stands ?l_stands ?c_stands ?k_stands ?a_is_table ?l_is_table ?c_is_table ?k_is_table ?a_table_of ?l_table_of ?c_table_of ?k_table_of ?a_common_places ?l_common_places ?c_common_places ?k_common_places ?a_steps_on ?l_steps_on ?c_steps_on ?k_steps_on ?t_Both_init ?l_Both_init ?c_Both_init ?k_Both_init ?fn_Both_init ?m_Both_init ?q_Both_init ?t_Left_init ?l_Left_init ?c_Left_init ?k_Left_init ?fn_Left_init ?m_Left_init ?q_Left_init ?t_Longest_init ?l_Longest_init ?c_Longest_init ?k_Longest_init ?fn_Longest_init ?m_Longest_init ?q_Longest_init ?t_Missing_init ?l_Missing_init ?c_Missing_init ?k_Missing_init ?fn_Missing_init ?m_Missing_init ?q_Missing_init ?t_Mixed_init ?l_Mixed_init ?c_Mixed_init ?k_Mixed_init ?fn_Mixed_init ?m_Mixed_init ?q_Mixed_init ?t_Short_init ?l_Short_init ?c_Short_init ?k_Short_init ?fn_Short_init ?m_Short_init ?q_Short_init ?t_Unmixed_init ?l_Unmixed_init ?c_Unmixed_init ?k_Unmixed_init ?fn_Unmixed_init ?m_Unmixed_init ?q_Unmixed_init ?t_Both_shows ?l_Both_shows ?c_Both_shows ?k_Both_shows ?fn_Both_shows ?t_Left_shows ?l_Left_shows ?c_Left_shows ?k_Left_shows ?fn_Left_shows ?t_Longest_shows ?l_Longest_shows ?c_Longest_shows ?k_Longest_shows ?fn_Longest_shows ?t_Missing_shows ?l_Missing_shows ?c_Missing_shows ?k_Missing_shows ?fn_Missing_shows ?t_Mixed_shows ?l_Mixed_shows ?c_Mixed_shows ?k_Mixed_shows ?fn_Mixed_shows ?t_Short_shows ?l_Short_shows ?c_Short_shows ?k_Short_shows ?fn_Short_shows ?t_Unmixed_shows ?l_Unmixed_shows ?c_Unmixed_shows ?k_Unmixed_shows ?fn_Unmixed_shows ?a_left ?l_left ?c_left ?k_left ?a_longest ?l_longest ?c_longest ?k_longest ?a_shortest ?l_shortest ?c_shortest ?k_shortest ?a_missing ?l_missing ?c_missing ?k_missing ?a_mixed ?l_mixed ?c_mixed ?k_mixed ?a_law_row ?l_law_row ?c_law_row ?k_law_row ?a_law_stands ?l_law_stands ?c_law_stands ?k_law_stands ?a_law_is_left ?l_law_is_left ?c_law_is_left ?k_law_is_left ?a_law_short ?l_law_short ?c_law_short ?k_law_short ?a_law_table ?l_law_table ?c_law_table ?k_law_table ?a_law_long ?l_law_long ?c_law_long ?k_law_long ?a_law_missed ?l_law_missed ?c_law_missed ?k_law_missed ?a_law_is_mixed ?l_law_is_mixed ?c_law_is_mixed ?k_law_is_mixed ?a_law_unmixed ?l_law_unmixed ?c_law_unmixed ?k_law_unmixed ?a_law_says ?l_law_says ?c_law_says ?k_law_says ?a_law_bent ?l_law_bent ?c_law_bent ?k_law_bent ?a_law_places_right ?l_law_places_right ?c_law_places_right ?k_law_places_right ?a_law_rows_right ?l_law_rows_right ?c_law_rows_right ?k_law_rows_right ?a_law_tables_right ?l_law_tables_right ?c_law_tables_right ?k_law_tables_right ?a_law_missing_right ?l_law_missing_right ?c_law_missing_right ?k_law_missing_right ?a_law_mixed_right ?l_law_mixed_right ?c_law_mixed_right ?k_law_mixed_right ?a_law_few_right ?l_law_few_right ?c_law_few_right ?k_law_few_right ?a_law ?l_law ?c_law ?k_law
    (case n_isinstance => k_is)
    (case n_int => k_is)
    (case n_bool => k_is)
    (case n_list => k_is)
    (case n_tuple => k_is)
    (case n_len => k_is)
    (case n_range => k_is)
    (case n_reversed => k_is)
    (case n_enumerate => k_is)
    (case n_zip => k_is)
    (case n_sum => k_is)
    (case n_min => k_is)
    (case n_max => k_is)
    (case n_all => k_is)
    (case n_any => k_is)
    (case n_set => k_is)
    (case n_sorted => k_is)
    (case g_get => k_is)
    (case g_tk => k_is)
    (case a_Both => k_is)
    (case pg_Both => k_is)
    (case hd_Both => k_is)
    (case po_Both => k_is)
    (case sa_Both => k_is)
    (case cc_Both => k_is)
    (case mo_Both => k_is)
    (case no_Both_row => k_is)
    (case no_Both_mine => k_is)
    (case no_Both_theirs => k_is)
    (case no_Both_table => k_is)
    (case a_Left => k_is)
    (case pg_Left => k_is)
    (case hd_Left => k_is)
    (case po_Left => k_is)
    (case sa_Left => k_is)
    (case cc_Left => k_is)
    (case mo_Left => k_is)
    (case no_Left_places => k_is)
    (case a_Longest => k_is)
    (case pg_Longest => k_is)
    (case hd_Longest => k_is)
    (case po_Longest => k_is)
    (case sa_Longest => k_is)
    (case cc_Longest => k_is)
    (case mo_Longest => k_is)
    (case no_Longest_mine => k_is)
    (case no_Longest_theirs => k_is)
    (case no_Longest_table => k_is)
    (case a_Missing => k_is)
    (case pg_Missing => k_is)
    (case hd_Missing => k_is)
    (case po_Missing => k_is)
    (case sa_Missing => k_is)
    (case cc_Missing => k_is)
    (case mo_Missing => k_is)
    (case no_Missing_cuts => k_is)
    (case no_Missing_word => k_is)
    (case a_Mixed => k_is)
    (case pg_Mixed => k_is)
    (case hd_Mixed => k_is)
    (case po_Mixed => k_is)
    (case sa_Mixed => k_is)
    (case cc_Mixed => k_is)
    (case mo_Mixed => k_is)
    (case no_Mixed_places => k_is)
    (case a_Short => k_is)
    (case pg_Short => k_is)
    (case hd_Short => k_is)
    (case po_Short => k_is)
    (case sa_Short => k_is)
    (case cc_Short => k_is)
    (case mo_Short => k_is)
    (case no_Short_places => k_is)
    (case a_Unmixed => k_is)
    (case pg_Unmixed => k_is)
    (case hd_Unmixed => k_is)
    (case po_Unmixed => k_is)
    (case sa_Unmixed => k_is)
    (case cc_Unmixed => k_is)
    (case mo_Unmixed => k_is)
    (case no_Unmixed_pairs => k_is)
    (case i_Mixed_Mixed => kit_is)
    (case i_Mixed_Unmixed => kit_is)
    (case i_Unmixed_Unmixed => kit_is)
    (case i_Unmixed_Mixed => kit_is)
    (case a_is_number => k_is)
    (case l_is_number => k_is)
    (case c_is_number => k_is)
    (case k_is_number => k_is)
    (case a_check_row => k_is)
    (case l_check_row => k_is)
    (case c_check_row => k_is)
    (case k_check_row => k_is)
    (case a_check_kinds => k_is)
    (case l_check_kinds => k_is)
    (case c_check_kinds => k_is)
    (case k_check_kinds => k_is)
    (case a_earliest => k_is)
    (case l_earliest => k_is)
    (case c_earliest => k_is)
    (case k_earliest => k_is)
    (case a_are_rising => k_is)
    (case l_are_rising => k_is)
    (case c_are_rising => k_is)
    (case k_are_rising => k_is)
    (case a_stands => k_is)
    (case l_stands => k_is)
    (case c_stands => k_is)
    (case k_stands => k_is)
    (case a_is_table => k_is)
    (case l_is_table => k_is)
    (case c_is_table => k_is)
    (case k_is_table => k_is)
    (case a_table_of => k_is)
    (case l_table_of => k_is)
    (case c_table_of => k_is)
    (case k_table_of => k_is)
    (case a_common_places => k_is)
    (case l_common_places => k_is)
    (case c_common_places => k_is)
    (case k_common_places => k_is)
    (case a_steps_on => k_is)
    (case l_steps_on => k_is)
    (case c_steps_on => k_is)
    (case k_steps_on => k_is)
    (case t_Both_init => k_is)
    (case l_Both_init => k_is)
    (case c_Both_init => k_is)
    (case k_Both_init => k_is)
    (case fn_Both_init => k_is)
    (case m_Both_init => k_is)
    (case q_Both_init => k_is)
    (case t_Left_init => k_is)
    (case l_Left_init => k_is)
    (case c_Left_init => k_is)
    (case k_Left_init => k_is)
    (case fn_Left_init => k_is)
    (case m_Left_init => k_is)
    (case q_Left_init => k_is)
    (case t_Longest_init => k_is)
    (case l_Longest_init => k_is)
    (case c_Longest_init => k_is)
    (case k_Longest_init => k_is)
    (case fn_Longest_init => k_is)
    (case m_Longest_init => k_is)
    (case q_Longest_init => k_is)
    (case t_Missing_init => k_is)
    (case l_Missing_init => k_is)
    (case c_Missing_init => k_is)
    (case k_Missing_init => k_is)
    (case fn_Missing_init => k_is)
    (case m_Missing_init => k_is)
    (case q_Missing_init => k_is)
    (case t_Mixed_init => k_is)
    (case l_Mixed_init => k_is)
    (case c_Mixed_init => k_is)
    (case k_Mixed_init => k_is)
    (case fn_Mixed_init => k_is)
    (case m_Mixed_init => k_is)
    (case q_Mixed_init => k_is)
    (case t_Short_init => k_is)
    (case l_Short_init => k_is)
    (case c_Short_init => k_is)
    (case k_Short_init => k_is)
    (case fn_Short_init => k_is)
    (case m_Short_init => k_is)
    (case q_Short_init => k_is)
    (case t_Unmixed_init => k_is)
    (case l_Unmixed_init => k_is)
    (case c_Unmixed_init => k_is)
    (case k_Unmixed_init => k_is)
    (case fn_Unmixed_init => k_is)
    (case m_Unmixed_init => k_is)
    (case q_Unmixed_init => k_is)
    (case t_Both_shows => k_is)
    (case l_Both_shows => k_is)
    (case c_Both_shows => k_is)
    (case k_Both_shows => k_is)
    (case fn_Both_shows => k_is)
    (case t_Left_shows => k_is)
    (case l_Left_shows => k_is)
    (case c_Left_shows => k_is)
    (case k_Left_shows => k_is)
    (case fn_Left_shows => k_is)
    (case t_Longest_shows => k_is)
    (case l_Longest_shows => k_is)
    (case c_Longest_shows => k_is)
    (case k_Longest_shows => k_is)
    (case fn_Longest_shows => k_is)
    (case t_Missing_shows => k_is)
    (case l_Missing_shows => k_is)
    (case c_Missing_shows => k_is)
    (case k_Missing_shows => k_is)
    (case fn_Missing_shows => k_is)
    (case t_Mixed_shows => k_is)
    (case l_Mixed_shows => k_is)
    (case c_Mixed_shows => k_is)
    (case k_Mixed_shows => k_is)
    (case fn_Mixed_shows => k_is)
    (case t_Short_shows => k_is)
    (case l_Short_shows => k_is)
    (case c_Short_shows => k_is)
    (case k_Short_shows => k_is)
    (case fn_Short_shows => k_is)
    (case t_Unmixed_shows => k_is)
    (case l_Unmixed_shows => k_is)
    (case c_Unmixed_shows => k_is)
    (case k_Unmixed_shows => k_is)
    (case fn_Unmixed_shows => k_is)
    (case a_left => k_is)
    (case l_left => k_is)
    (case c_left => k_is)
    (case k_left => k_is)
    (case a_longest => k_is)
    (case l_longest => k_is)
    (case c_longest => k_is)
    (case k_longest => k_is)
    (case a_shortest => k_is)
    (case l_shortest => k_is)
    (case c_shortest => k_is)
    (case k_shortest => k_is)
    (case a_missing => k_is)
    (case l_missing => k_is)
    (case c_missing => k_is)
    (case k_missing => k_is)
    (case a_mixed => k_is)
    (case l_mixed => k_is)
    (case c_mixed => k_is)
    (case k_mixed => k_is)
    (case a_law_row => k_is)
    (case l_law_row => k_is)
    (case c_law_row => k_is)
    (case k_law_row => k_is)
    (case a_law_stands => k_is)
    (case l_law_stands => k_is)
    (case c_law_stands => k_is)
    (case k_law_stands => k_is)
    (case a_law_is_left => k_is)
    (case l_law_is_left => k_is)
    (case c_law_is_left => k_is)
    (case k_law_is_left => k_is)
    (case a_law_short => k_is)
    (case l_law_short => k_is)
    (case c_law_short => k_is)
    (case k_law_short => k_is)
    (case a_law_table => k_is)
    (case l_law_table => k_is)
    (case c_law_table => k_is)
    (case k_law_table => k_is)
    (case a_law_long => k_is)
    (case l_law_long => k_is)
    (case c_law_long => k_is)
    (case k_law_long => k_is)
    (case a_law_missed => k_is)
    (case l_law_missed => k_is)
    (case c_law_missed => k_is)
    (case k_law_missed => k_is)
    (case a_law_is_mixed => k_is)
    (case l_law_is_mixed => k_is)
    (case c_law_is_mixed => k_is)
    (case k_law_is_mixed => k_is)
    (case a_law_unmixed => k_is)
    (case l_law_unmixed => k_is)
    (case c_law_unmixed => k_is)
    (case k_law_unmixed => k_is)
    (case a_law_says => k_is)
    (case l_law_says => k_is)
    (case c_law_says => k_is)
    (case k_law_says => k_is)
    (case a_law_bent => k_is)
    (case l_law_bent => k_is)
    (case c_law_bent => k_is)
    (case k_law_bent => k_is)
    (case a_law_places_right => k_is)
    (case l_law_places_right => k_is)
    (case c_law_places_right => k_is)
    (case k_law_places_right => k_is)
    (case a_law_rows_right => k_is)
    (case l_law_rows_right => k_is)
    (case c_law_rows_right => k_is)
    (case k_law_rows_right => k_is)
    (case a_law_tables_right => k_is)
    (case l_law_tables_right => k_is)
    (case c_law_tables_right => k_is)
    (case k_law_tables_right => k_is)
    (case a_law_missing_right => k_is)
    (case l_law_missing_right => k_is)
    (case c_law_missing_right => k_is)
    (case k_law_missing_right => k_is)
    (case a_law_mixed_right => k_is)
    (case l_law_mixed_right => k_is)
    (case c_law_mixed_right => k_is)
    (case k_law_mixed_right => k_is)
    (case a_law_few_right => k_is)
    (case l_law_few_right => k_is)
    (case c_law_few_right => k_is)
    (case k_law_few_right => k_is)
    (case a_law => k_is)
    (case l_law => k_is)
    (case c_law => k_is)
    (case k_law => k_is)
#print axioms PySem.Challenge.cw_leftin_k07_answers_by_hand_holds
