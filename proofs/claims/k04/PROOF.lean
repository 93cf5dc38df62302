import PyProof.Rows.All
import Wide.All
import OpenK.AllK
import Wide.FinOn
import HandS.ForMost
import HandS.Flow
import HandS.Style
import HandS.IsInst
import HandS.Deep
import HandS.RevRange
import HandS.Wide
import PySem.Challenge.RW_leftin_k04_whole_missing
import HandS.Conv
import KE.KDictDisplayH
import HandS.SetFor
import HandS.Strs
import PyProof.Rows.SetFrom
set_option Elab.async false
set_option linter.all false
set_option maxRecDepth 100000
set_option maxHeartbeats 2000000
set_option autoImplicit false
/-! Lf: a layer of pure values over HandS: what expressions and statements come to, with no heap in sight. -/
namespace Lf
open PySem L2

/-! quick side conditions: what an expression is not, by its head alone -/
def nsE : Expr → Bool | .Starred _ _ => false | _ => true
def nsC : Expr → Bool | .ListComp _ _ _ _ => false | .SetComp _ _ _ _ => false | .DictComp _ _ _ _ _ => false | _ => true
def nsS : Expr → Bool | .Set _ _ _ => false | _ => true
def nsB : Expr → Bool | .UnaryOp _ _ _ => false | .BoolOp _ _ _ => false | .IfExp _ _ _ _ => false | .Compare _ _ _ _ => false | _ => true
def nsX : Expr → Bool | .Slice _ _ _ _ => false | .Tuple _ _ _ => false | _ => true
def nsT : Expr → Bool | .Tuple _ _ _ => false | _ => true
theorem star_c {e : Expr} {es : List Expr} {env : Env} (h : nsE e = true) : starEach (e :: es) env = (false, eval e env) :: starEach es env := by
  cases e <;> first | rfl | cases h
theorem star_1 {e : Expr} {env : Env} (h : nsE e = true) : starEach [e] env = [(false, eval e env)] := by
  rw [star_c h]; rfl
theorem back_ns {pos : Pos} {env : Env} : ∀ {es : List Expr}, es.all nsE = true → (backTo pos (starEach es env)).any (·.1) = false
  | [], _ => rfl
  | e :: es, h => by
    rw [List.all_cons, Bool.and_eq_true] at h
    rw [star_c h.1]
    show (false || (backTo pos (starEach es env)).any (·.1)) = false
    rw [back_ns h.2]; rfl
theorem sw_ns {e : Expr} {t : Option Expr} {n : Nat} {env : Env} (h : nsC e = true) : swapsWith e t n env = pure false := by
  cases e <;> first | rfl | cases h
theorem sws_ns {t e : Expr} {n : Nat} {env : Env} (h : nsC e = true) : swapsWithSole [t] e n env = pure false := by
  show swapsWith e (some t) n env = pure false
  exact sw_ns h
theorem fs_ns {e : Expr} {env : Env} (h : nsS e = true) : ∀ x, foldedSetIterable e env x = pure x := by
  intro x
  cases e <;> first | rfl | cases h
theorem it_ns {e : Expr} {env : Env} (h : nsB e = true) : ∀ whole, isTrue e env whole = (do let v ← whole; standAt e.pos; holding [v] (truthy v)) := by
  intro w
  cases e <;> first | rfl | cases h
theorem px_ns {b : Expr} (h : nsX b = true) : PlainIx b := by
  intro o i
  cases b <;> first | rfl | cases h
theorem bm_ns {op : CmpOp} {b : Expr} (h : nsS b = true) : behindInMarks op b = false := by
  cases b <;> first | rfl | cases h
theorem lm_ns {o o' : CmpOp} {b c : Expr} (h : nsS c = true) : lastMarks [o, o'] [b, c] = false := by
  show behindInMarks o' c = false
  exact bm_ns h
theorem ss_sub {a b e : Expr} {p : Pos} {env : Env} : swappedStores [.Subscript a b p] e env = pure none := by
  cases e <;> rfl
theorem ss_tup {t e : Expr} {env : Env} (h : nsT e = true) : swappedStores [t] e env = pure none := by
  cases e <;> first | (cases t <;> rfl) | cases h

/-- a pure value -/
inductive D where
  | non
  | bl (b : Bool)
  | int (i : Int)
  | str (x : Str)
  | il (ns : List Int)
  | scr (ns : List Int)
  | lst (ds : List D)
  | tup (ds : List D)
  | obj (C : Addr) (fs : List (Str × D))
  | ptr (b : Addr)

def scal : D → Bool
  | .non => true
  | .bl _ => true
  | .int _ => true
  | .str _ => true
  | .ptr _ => true
  | _ => false

mutual
inductive Rp (K : PySem.W.Frag) (H : Hp) : V → D → Prop
  | non : Rp K H .non .non
  | bl (b : Bool) : Rp K H (.bl b) (.bl b)
  | int (i : Int) : Rp K H (.int i) (.int i)
  | str (x : Str) : Rp K H (.str x) (.str x)
  | il {a : Addr} {ns : List Int} : H a = some (.lst (ns.map V.int)) → Rp K H (.ref a) (.il ns)
  | scr {a : Addr} {ns : List Int} : SqL K H a (ns.map V.int) → Rp K H (.ref a) (.scr ns)
  | lst {a : Addr} {xs : List V} {ds : List D} : H a = some (.lst xs) → RpAll K H xs ds → Rp K H (.ref a) (.lst ds)
  | tup {a : Addr} {xs : List V} {ds : List D} : H a = some (.tup xs) → RpAll K H xs ds → Rp K H (.ref a) (.tup ds)
  | obj {a C dx : Addr} {fs : List (Str × V)} {gs : List (Str × D)} : H a = some (.ins C dx fs) → RpF K H fs gs → Rp K H (.ref a) (.obj C gs)
  | ptr (b : Addr) : Rp K H (.ref b) (.ptr b)
inductive RpAll (K : PySem.W.Frag) (H : Hp) : List V → List D → Prop
  | nil : RpAll K H [] []
  | cons {v : V} {d : D} {vs : List V} {ds : List D} : Rp K H v d → RpAll K H vs ds → RpAll K H (v :: vs) (d :: ds)
inductive RpF (K : PySem.W.Frag) (H : Hp) : List (Str × V) → List (Str × D) → Prop
  | nil : RpF K H [] []
  | cons {f : Str} {v : V} {d : D} {vs : List (Str × V)} {ds : List (Str × D)} : Rp K H v d → RpF K H vs ds → RpF K H ((f, v) :: vs) ((f, d) :: ds)
end

theorem seqT {K : PySem.W.Frag} {H H' : Hp} {a : Addr} {xs : List V} (e : Same H H') (h : SqT K H a xs) : SqT K H' a xs := by
  rcases h with (h | ⟨o, h⟩) | h
  · exact .inl (.inl (e _ _ h))
  · exact .inl (.inr ⟨o, e _ _ h⟩)
  · exact .inr h

mutual
theorem Rp.mono {K : PySem.W.Frag} {H H' : Hp} (e : Same H H') : ∀ {v : V} {d : D}, Rp K H v d → Rp K H' v d
  | _, _, .non => .non
  | _, _, .bl b => .bl b
  | _, _, .int i => .int i
  | _, _, .str x => .str x
  | _, _, .il h => .il (e _ _ h)
  | _, _, .scr h => .scr (e.seq h)
  | _, _, .lst h r => .lst (e _ _ h) (RpAll.mono e r)
  | _, _, .tup h r => .tup (e _ _ h) (RpAll.mono e r)
  | _, _, .obj h r => .obj (e _ _ h) (RpF.mono e r)
  | _, _, .ptr b => .ptr b
theorem RpAll.mono {K : PySem.W.Frag} {H H' : Hp} (e : Same H H') : ∀ {vs : List V} {ds : List D}, RpAll K H vs ds → RpAll K H' vs ds
  | _, _, .nil => .nil
  | _, _, .cons h r => .cons (h.mono e) (r.mono e)
theorem RpF.mono {K : PySem.W.Frag} {H H' : Hp} (e : Same H H') : ∀ {vs : List (Str × V)} {ds : List (Str × D)}, RpF K H vs ds → RpF K H' vs ds
  | _, _, .nil => .nil
  | _, _, .cons h r => .cons (h.mono e) (r.mono e)
end

theorem Rp.scal {K : PySem.W.Frag} {H H' : Hp} {v : V} {d : D} (h : Rp K H v d) (s : scal d = true) : Rp K H' v d := by
  cases h with
  | non => exact .non
  | bl b => exact .bl b
  | int i => exact .int i
  | str x => exact .str x
  | il _ => cases s
  | scr _ => cases s
  | lst _ _ => cases s
  | tup _ _ => cases s
  | obj _ _ => cases s
  | ptr b => exact .ptr b
theorem RpAll.scal {K : PySem.W.Frag} {H H' : Hp} : ∀ {vs : List V} {ds : List D}, RpAll K H vs ds → ds.all Lf.scal = true → RpAll K H' vs ds
  | _, _, .nil, _ => .nil
  | _, _, .cons h r, e => by
    rw [List.all_cons, Bool.and_eq_true] at e
    exact .cons (h.scal e.1) (r.scal e.2)
theorem RpAll.length {K : PySem.W.Frag} {H : Hp} : ∀ {vs : List V} {ds : List D}, RpAll K H vs ds → vs.length = ds.length
  | _, _, .nil => rfl
  | _, _, .cons _ r => by rw [List.length_cons, List.length_cons, r.length]
theorem RpAll.il {K : PySem.W.Frag} {H : Hp} : ∀ (ns : List Int), RpAll K H (ns.map V.int) (ns.map D.int)
  | [] => .nil
  | n :: r => .cons (.int n) (RpAll.il r)
theorem RpAll.of_il {K : PySem.W.Frag} {H : Hp} : ∀ {vs : List V} {ns : List Int}, RpAll K H vs (ns.map D.int) → vs = ns.map V.int
  | _, [], .nil => rfl
  | _, n :: r, .cons (.int _) h => by rw [List.map_cons, RpAll.of_il h]
theorem RpAll.append {K : PySem.W.Frag} {H : Hp} : ∀ {vs ws : List V} {ds es : List D}, RpAll K H vs ds → RpAll K H ws es → RpAll K H (vs ++ ws) (ds ++ es)
  | _, _, _, _, .nil, r => r
  | _, _, _, _, .cons h r, r' => .cons h (r.append r')
theorem RpAll.get {K : PySem.W.Frag} {H : Hp} : ∀ {vs : List V} {ds : List D}, RpAll K H vs ds → ∀ {i : Nat} {d : D}, ds[i]? = some d → ∃ v, vs[i]? = some v ∧ Rp K H v d
  | _, _, .nil, i, d, e => by simp at e
  | _, _, .cons h r, 0, d, e => by
    simp at e
    subst e
    exact ⟨_, rfl, h⟩
  | _, _, .cons h r, i + 1, d, e => by
    obtain ⟨v, h1, h2⟩ := r.get (i := i) (d := d) (by simpa using e)
    exact ⟨v, by simpa using h1, h2⟩
theorem RpAll.getV {K : PySem.W.Frag} {H : Hp} : ∀ {vs : List V} {ds : List D}, RpAll K H vs ds → ∀ {i : Nat} {v : V}, vs[i]? = some v → ∃ d, ds[i]? = some d ∧ Rp K H v d
  | _, _, .nil, i, d, e => by simp at e
  | _, _, .cons h r, 0, d, e => by
    simp at e
    subst e
    exact ⟨_, rfl, h⟩
  | _, _, .cons h r, i + 1, d, e => by
    obtain ⟨v, h1, h2⟩ := r.getV (i := i) (v := d) (by simpa using e)
    exact ⟨v, by simpa using h1, h2⟩
theorem RpAll.take {K : PySem.W.Frag} {H : Hp} : ∀ (n : Nat) {vs : List V} {ds : List D}, RpAll K H vs ds → RpAll K H (vs.take n) (ds.take n)
  | 0, _, _, _ => .nil
  | _ + 1, _, _, .nil => .nil
  | n + 1, _, _, .cons h r => .cons h (r.take n)
theorem RpAll.drop {K : PySem.W.Frag} {H : Hp} : ∀ (n : Nat) {vs : List V} {ds : List D}, RpAll K H vs ds → RpAll K H (vs.drop n) (ds.drop n)
  | 0, _, _, r => r
  | _ + 1, _, _, .nil => .nil
  | n + 1, _, _, .cons _ r => r.drop n
theorem RpAll.reverse {K : PySem.W.Frag} {H : Hp} : ∀ {vs : List V} {ds : List D}, RpAll K H vs ds → RpAll K H vs.reverse ds.reverse
  | _, _, .nil => .nil
  | _, _, .cons h r => by
    rw [List.reverse_cons, List.reverse_cons]
    exact r.reverse.append (.cons h .nil)
theorem RpAll.set {K : PySem.W.Frag} {H : Hp} {v : V} {d : D} (h : Rp K H v d) : ∀ (i : Nat) {vs : List V} {ds : List D}, RpAll K H vs ds → RpAll K H (vs.set i v) (ds.set i d)
  | _, _, _, .nil => .nil
  | 0, _, _, .cons _ r => .cons h r
  | i + 1, _, _, .cons q r => .cons q (r.set h i)
theorem RpAll.dropLast {K : PySem.W.Frag} {H : Hp} {vs : List V} {ds : List D} (h : RpAll K H vs ds) : RpAll K H vs.dropLast ds.dropLast := by
  rw [List.dropLast_eq_take, List.dropLast_eq_take, h.length]
  exact h.take _
theorem RpF.look {K : PySem.W.Frag} {H : Hp} : ∀ {vs : List (Str × V)} {ds : List (Str × D)}, RpF K H vs ds → ∀ {f : Str} {d : D}, ds.lookup f = some d → ∃ v, vs.lookup f = some v ∧ Rp K H v d
  | _, _, .nil, f, d, e => by simp at e
  | _, _, .cons (f := g) h r, f, d, e => by
    by_cases q : f = g
    · subst q
      simp at e
      subst e
      exact ⟨_, by simp, h⟩
    · have q' : (f == g) = false := by simpa using q
      simp only [List.lookup, q'] at e ⊢
      exact r.look e
theorem RpF.no {K : PySem.W.Frag} {H : Hp} : ∀ {vs : List (Str × V)} {ds : List (Str × D)}, RpF K H vs ds → ∀ {f : Str}, ds.lookup f = none → vs.lookup f = none
  | _, _, .nil, f, e => by simp
  | _, _, .cons (f := g) h r, f, e => by
    by_cases q : f = g
    · subst q
      simp at e
    · have q' : (f == g) = false := by simpa using q
      simp only [List.lookup, q'] at e ⊢
      exact r.no e


/-! a value with the addresses of its own nodes: lists and objects that nothing else speaks of, and what hangs on them -/
inductive G where
  | d (d : D)
  | li (b : Addr) (ns : List Int)
  | ls (b : Addr) (gs : List G)
  | ob (b C : Addr) (fs : List Str) (gs : List G)
mutual
def adds : G → List Addr
  | .d _ => []
  | .li b _ => [b]
  | .ls b gs => b :: addss gs
  | .ob b _ _ gs => b :: addss gs
def addss : List G → List Addr
  | [] => []
  | g :: r => adds g ++ addss r
end
mutual
def erase : G → D
  | .d d => d
  | .li _ ns => .il ns
  | .ls _ gs => .lst (erases gs)
  | .ob _ C fs gs => .obj C (fs.zip (erases gs))
def erases : List G → List D
  | [] => []
  | g :: r => erase g :: erases r
end
/-- what hangs on a tree: constants, tuples -/
def leafD : D → Bool
  | .tup _ => true
  | d => scal d
mutual
def okG : G → Bool
  | .d d => leafD d
  | .li _ _ => true
  | .ls _ gs => okGs gs
  | .ob _ _ fs gs => fs.length == gs.length && okGs gs
def okGs : List G → Bool
  | [] => true
  | g :: r => okG g && okGs r
end
structure Nd (g : G) : Prop where
  nd : (adds g).Nodup
  ok : okG g = true
mutual
inductive AtG (K : PySem.W.Frag) (Hs H : Hp) : V → G → Prop
  | d {v : V} {d : D} : Rp K Hs v d → AtG K Hs H v (.d d)
  | li {b : Addr} {ns : List Int} : H b = some (.lst (ns.map V.int)) → AtG K Hs H (.ref b) (.li b ns)
  | ls {b : Addr} {gs : List G} {vs : List V} : H b = some (.lst vs) → AtGs K Hs H vs gs → AtG K Hs H (.ref b) (.ls b gs)
  | ob {b C dx : Addr} {fs : List Str} {gs : List G} {vs : List V} : H b = some (.ins C dx (fs.zip vs)) → fs.length = vs.length → AtGs K Hs H vs gs → AtG K Hs H (.ref b) (.ob b C fs gs)
inductive AtGs (K : PySem.W.Frag) (Hs H : Hp) : List V → List G → Prop
  | nil : AtGs K Hs H [] []
  | cons {v : V} {g : G} {vs : List V} {gs : List G} : AtG K Hs H v g → AtGs K Hs H vs gs → AtGs K Hs H (v :: vs) (g :: gs)
end
mutual
theorem AtG.mono {K : PySem.W.Frag} {Hs H Hs' H' : Hp} (es : Same Hs Hs') (e : Same H H') : ∀ {v : V} {g : G}, AtG K Hs H v g → AtG K Hs' H' v g
  | _, _, .d r => .d (r.mono es)
  | _, _, .li h => .li (e _ _ h)
  | _, _, .ls h r => .ls (e _ _ h) (AtGs.mono es e r)
  | _, _, .ob h l r => .ob (e _ _ h) l (AtGs.mono es e r)
theorem AtGs.mono {K : PySem.W.Frag} {Hs H Hs' H' : Hp} (es : Same Hs Hs') (e : Same H H') : ∀ {vs : List V} {gs : List G}, AtGs K Hs H vs gs → AtGs K Hs' H' vs gs
  | _, _, .nil => .nil
  | _, _, .cons h r => .cons (AtG.mono es e h) (AtGs.mono es e r)
end
mutual
/-- a node elsewhere changes -/
theorem AtG.off {K : PySem.W.Frag} {Hs H : Hp} {a : Addr} {o : HO} : ∀ {v : V} {g : G}, AtG K Hs H v g → a ∉ adds g → AtG K Hs (upd H a o) v g
  | _, _, .d r, _ => .d r
  | _, _, .li h, n => .li (by rw [upd_ne (fun e => n (by rw [adds, e]; exact List.mem_cons_self ..))]; exact h)
  | _, _, .ls h r, n => .ls (by rw [upd_ne (fun e => n (by rw [adds, e]; exact List.mem_cons_self ..))]; exact h) (AtGs.off r fun z => n (by rw [adds]; exact List.mem_cons_of_mem _ z))
  | _, _, .ob h l r, n => .ob (by rw [upd_ne (fun e => n (by rw [adds, e]; exact List.mem_cons_self ..))]; exact h) l (AtGs.off r fun z => n (by rw [adds]; exact List.mem_cons_of_mem _ z))
theorem AtGs.off {K : PySem.W.Frag} {Hs H : Hp} {a : Addr} {o : HO} : ∀ {vs : List V} {gs : List G}, AtGs K Hs H vs gs → a ∉ addss gs → AtGs K Hs (upd H a o) vs gs
  | _, _, .nil, _ => .nil
  | _, _, .cons h r, n => .cons (AtG.off h fun z => n (by rw [addss]; exact List.mem_append_left _ z)) (AtGs.off r fun z => n (by rw [addss]; exact List.mem_append_right _ z))
end
mutual
theorem AtG.dom {K : PySem.W.Frag} {Hs H : Hp} : ∀ {v : V} {g : G}, AtG K Hs H v g → ∀ b, b ∈ adds g → H b ≠ none
  | _, _, .d r, b, m => by rw [adds] at m; cases m
  | _, _, .li h, b, m => by
    rw [adds, List.mem_singleton] at m
    subst m
    rw [h]; intro z; cases z
  | _, _, .ls h r, b, m => by
    rw [adds] at m
    rcases List.mem_cons.mp m with rfl | m
    · rw [h]; intro z; cases z
    · exact AtGs.dom r b m
  | _, _, .ob h l r, b, m => by
    rw [adds] at m
    rcases List.mem_cons.mp m with rfl | m
    · rw [h]; intro z; cases z
    · exact AtGs.dom r b m
theorem AtGs.dom {K : PySem.W.Frag} {Hs H : Hp} : ∀ {vs : List V} {gs : List G}, AtGs K Hs H vs gs → ∀ b, b ∈ addss gs → H b ≠ none
  | _, _, .nil, b, m => by rw [addss] at m; cases m
  | _, _, .cons h r, b, m => by
    rw [addss] at m
    rcases List.mem_append.mp m with m | m
    · exact AtG.dom h b m
    · exact AtGs.dom r b m
end
theorem AtGs.length {K : PySem.W.Frag} {Hs H : Hp} : ∀ {vs : List V} {gs : List G}, AtGs K Hs H vs gs → vs.length = gs.length
  | _, _, .nil => rfl
  | _, _, .cons _ r => by rw [List.length_cons, List.length_cons, r.length]
theorem RpF.zip {K : PySem.W.Frag} {H : Hp} : ∀ (fs : List Str) {vs : List V} {ds : List D}, RpAll K H vs ds → RpF K H (fs.zip vs) (fs.zip ds)
  | [], _, _, _ => .nil
  | _ :: _, _, _, .nil => .nil
  | _ :: fs, _, _, .cons h r => .cons h (RpF.zip fs r)
mutual
/-- .. as a value, where H2 holds the nodes and the rest -/
theorem AtG.rp {K : PySem.W.Frag} {Hs H H2 : Hp} (es : Same Hs H2) : ∀ {v : V} {g : G}, AtG K Hs H v g → (∀ b, b ∈ adds g → H2 b = H b) → Rp K H2 v (erase g)
  | _, _, .d r, _ => by rw [erase]; exact r.mono es
  | _, _, .li h, q => by rw [erase]; exact .il (by rw [q _ (by rw [adds]; exact List.mem_cons_self ..)]; exact h)
  | _, _, .ls h r, q => by rw [erase]; exact .lst (by rw [q _ (by rw [adds]; exact List.mem_cons_self ..)]; exact h) (AtGs.rp es r fun b m => q b (by rw [adds]; exact List.mem_cons_of_mem _ m))
  | _, _, .ob h l r, q => by rw [erase]; exact .obj (by rw [q _ (by rw [adds]; exact List.mem_cons_self ..)]; exact h) (RpF.zip _ (AtGs.rp es r fun b m => q b (by rw [adds]; exact List.mem_cons_of_mem _ m)))
theorem AtGs.rp {K : PySem.W.Frag} {Hs H H2 : Hp} (es : Same Hs H2) : ∀ {vs : List V} {gs : List G}, AtGs K Hs H vs gs → (∀ b, b ∈ addss gs → H2 b = H b) → RpAll K H2 vs (erases gs)
  | _, _, .nil, _ => by rw [erases]; exact .nil
  | _, _, .cons h r, q => by rw [erases]; exact .cons (AtG.rp es h fun b m => q b (by rw [addss]; exact List.mem_append_left _ m)) (AtGs.rp es r fun b m => q b (by rw [addss]; exact List.mem_append_right _ m))
end

/-- where a value is held: in the whole heap; in what stays; in what is new and stays -/
inductive Lv where
  | full | imm | frs
  deriving DecidableEq
def Lv.le : Lv → Lv → Bool
  | .frs, _ => true
  | .imm, .frs => false
  | .imm, _ => true
  | .full, .full => true
  | .full, _ => false
/-- what stays (i), of it what is new (n), the whole (h) -/
structure W3 where
  i : Hp
  n : Hp
  h : Hp
def W3.at (T : W3) : Lv → Hp
  | .full => T.h
  | .imm => T.i
  | .frs => T.n
structure Ok (T : W3) : Prop where
  ni : Same T.n T.i
  ih : Same T.i T.h
theorem Ok.le {T : W3} (o : Ok T) : ∀ {a b : Lv}, Lv.le a b = true → Same (T.at a) (T.at b)
  | .frs, .frs, _ => Same.refl _
  | .frs, .imm, _ => o.ni
  | .frs, .full, _ => o.ni.trans o.ih
  | .imm, .imm, _ => Same.refl _
  | .imm, .full, _ => o.ih
  | .full, .full, _ => Same.refl _
  | .imm, .frs, h => nomatch h
  | .full, .imm, h => nomatch h
  | .full, .frs, h => nomatch h
theorem Lv.le_full : ∀ (a : Lv), Lv.le a .full = true
  | .frs => rfl
  | .imm => rfl
  | .full => rfl
theorem Ok.full {T : W3} (o : Ok T) {a : Lv} : Same (T.at a) T.h := o.le (b := .full) (Lv.le_full a)

/-- new things alone -/
structure Grow (T T' : W3) : Prop where
  ok : Ok T'
  ex : Same T.h T'.h
  xi : Same T.i T'.i
  xn : Same T.n T'.n
  fi : ∀ a, T.i a = none → T.h a ≠ none → T'.i a = none
  fn : ∀ a, T.n a = none → T.h a ≠ none → T'.n a = none
theorem Grow.refl {T : W3} (o : Ok T) : Grow T T := ⟨o, Same.refl _, Same.refl _, Same.refl _, fun _ h _ => h, fun _ h _ => h⟩
theorem Same.some {H H' : Hp} (e : Same H H') {a : Addr} (h : H a ≠ none) : H' a ≠ none := by
  cases q : H a with
  | none => exact absurd q h
  | some o => rw [e a o q]; intro z; cases z
theorem Grow.trans {T T1 T2 : W3} (a : Grow T T1) (b : Grow T1 T2) : Grow T T2 :=
  ⟨b.ok, a.ex.trans b.ex, a.xi.trans b.xi, a.xn.trans b.xn, fun c h q => b.fi c (a.fi c h q) (Same.some a.ex q), fun c h q => b.fn c (a.fn c h q) (Same.some a.ex q)⟩
theorem Grow.at {T T' : W3} (g : Grow T T') : ∀ (l : Lv), Same (T.at l) (T'.at l)
  | .full => g.ex
  | .imm => g.xi
  | .frs => g.xn
/-- .. own things may have changed, none is kept -/
structure Gs (T T' : W3) : Prop where
  ok : Ok T'
  dom : ∀ a, T.h a ≠ none → T'.h a ≠ none
  xi : Same T.i T'.i
  xn : Same T.n T'.n
  fi : ∀ a, T.i a = none → T.h a ≠ none → T'.i a = none
  fn : ∀ a, T.n a = none → T.h a ≠ none → T'.n a = none
theorem Grow.s {T T' : W3} (g : Grow T T') : Gs T T' := ⟨g.ok, fun _ h => Same.some g.ex h, g.xi, g.xn, g.fi, g.fn⟩
theorem Gs.refl {T : W3} (o : Ok T) : Gs T T := (Grow.refl o).s
theorem Gs.trans {T T1 T2 : W3} (a : Gs T T1) (b : Gs T1 T2) : Gs T T2 :=
  ⟨b.ok, fun c h => b.dom c (a.dom c h), a.xi.trans b.xi, a.xn.trans b.xn, fun c h q => b.fi c (a.fi c h q) (a.dom c q), fun c h q => b.fn c (a.fn c h q) (a.dom c q)⟩
theorem Gs.at {T T' : W3} (g : Gs T T') : ∀ {l : Lv}, l ≠ .full → Same (T.at l) (T'.at l)
  | .full, h => absurd rfl h
  | .imm, _ => g.xi
  | .frs, _ => g.xn

/-- .. own things may have changed, or are kept from now on -/
structure Gw (T T' : W3) : Prop where
  ok : Ok T'
  dom : ∀ a, T.h a ≠ none → T'.h a ≠ none
  xi : Same T.i T'.i
  xn : Same T.n T'.n
  fn : ∀ a, T.n a = none → T.i a ≠ none → T.h a ≠ none → T'.n a = none
theorem Grow.w {T T' : W3} (g : Grow T T') : Gw T T' := ⟨g.ok, fun _ h => Same.some g.ex h, g.xi, g.xn, fun a h1 _ h2 => g.fn a h1 h2⟩
theorem Gw.refl {T : W3} (o : Ok T) : Gw T T := (Grow.refl o).w
theorem Gw.trans {T T1 T2 : W3} (a : Gw T T1) (b : Gw T1 T2) : Gw T T2 :=
  ⟨b.ok, fun c h => b.dom c (a.dom c h), a.xi.trans b.xi, a.xn.trans b.xn, fun c h q r => b.fn c (a.fn c h q r) (Same.some a.xi q) (a.dom c r)⟩
theorem Gw.at {T T' : W3} (g : Gw T T') : ∀ {l : Lv}, l ≠ .full → Same (T.at l) (T'.at l)
  | .full, h => absurd rfl h
  | .imm, _ => g.xi
  | .frs, _ => g.xn

/-- a new object that nothing else speaks of (a new list, say) -/
def W3.put (T : W3) (a : Addr) (o : HO) : W3 := ⟨T.i, T.n, upd T.h a o⟩
theorem same_new {H : Hp} {p : Addr} {o : HO} (h : H p = none) : Same H (upd H p o) := fun b x e => by
  rw [upd_ne (ne_of_none e h)]
  exact e
theorem same_into {H H' : Hp} {p : Addr} {o : HO} (e : Same H H') (h : H p = none) : Same H (upd H' p o) := fun b x q => by
  rw [upd_ne (ne_of_none q h)]
  exact e b x q
theorem Ok.i_none {T : W3} (o : Ok T) {a : Addr} (h : T.h a = none) : T.i a = none := Same.free o.ih h
theorem Ok.n_none {T : W3} (o : Ok T) {a : Addr} (h : T.h a = none) : T.n a = none := Same.free o.ni (o.i_none h)
theorem Ok.n_none' {T : W3} (o : Ok T) {a : Addr} (h : T.i a = none) : T.n a = none := Same.free o.ni h
theorem Ok.put {T : W3} (o : Ok T) {a : Addr} {x : HO} (h : T.i a = none) : Ok (T.put a x) := ⟨o.ni, same_into o.ih h⟩
theorem Grow.put {T : W3} (o : Ok T) {a : Addr} {x : HO} (h : T.h a = none) : Grow T (T.put a x) :=
  ⟨o.put (o.i_none h), same_new h, Same.refl _, Same.refl _, fun _ q _ => q, fun _ q _ => q⟩
/-- an own object changes -/
theorem Gs.put {T : W3} (o : Ok T) {a : Addr} {x : HO} (h : T.i a = none) : Gs T (T.put a x) :=
  ⟨o.put h, fun b q => by
    show upd T.h a x b ≠ none
    by_cases e : b = a
    · subst e; rw [upd_same]; intro z; cases z
    · rw [upd_ne e]; exact q, Same.refl _, Same.refl _, fun _ q _ => q, fun _ q _ => q⟩
/-- an own object changes -/
theorem Gw.put {T : W3} (o : Ok T) {a : Addr} {x : HO} (h : T.i a = none) : Gw T (T.put a x) :=
  ⟨o.put h, fun b q => by
    show upd T.h a x b ≠ none
    by_cases e : b = a
    · subst e; rw [upd_same]; intro z; cases z
    · rw [upd_ne e]; exact q, Same.refl _, Same.refl _, fun _ q _ _ => q⟩
/-- the object at a is from now on kept as it is -/
def W3.fix (T : W3) (a : Addr) (o : HO) : W3 := ⟨upd T.i a o, upd T.n a o, T.h⟩
def W3.fixI (T : W3) (a : Addr) (o : HO) : W3 := ⟨upd T.i a o, T.n, T.h⟩
theorem same_both {H H' : Hp} {p : Addr} {o : HO} (e : Same H H') : Same (upd H p o) (upd H' p o) := fun b x q => by
  by_cases z : b = p
  · subst z; rw [upd_same] at q ⊢; exact q
  · rw [upd_ne z] at q ⊢; exact e b x q
theorem same_up {H H' : Hp} {p : Addr} {o : HO} (e : Same H H') (h : H' p = some o) : Same (upd H p o) H' := fun b x q => by
  by_cases z : b = p
  · subst z; rw [upd_same] at q; rw [h]; exact q
  · rw [upd_ne z] at q; exact e b x q
theorem Grow.fix {T0 T : W3} (g : Grow T0 T) {a : Addr} {o : HO} (h0 : T0.h a = none) (hi : T.i a = none) (h : T.h a = some o) : Grow T0 (T.fix a o) :=
  ⟨⟨same_both g.ok.ni, same_up g.ok.ih h⟩, g.ex, same_into g.xi (Same.free g.xi hi), same_into g.xn (Same.free g.xn (g.ok.n_none' hi)),
    fun b q r => by
      show upd T.i a o b = none
      rw [upd_ne (fun e => r (by rw [e]; exact h0))]
      exact g.fi b q r,
    fun b q r => by
      show upd T.n a o b = none
      rw [upd_ne (fun e => r (by rw [e]; exact h0))]
      exact g.fn b q r⟩
theorem Grow.fixI {T0 T : W3} (g : Grow T0 T) {a : Addr} {o : HO} (h0 : T0.h a = none) (hi : T.i a = none) (h : T.h a = some o) : Grow T0 (T.fixI a o) :=
  ⟨⟨same_into g.ok.ni (g.ok.n_none' hi), same_up g.ok.ih h⟩, g.ex, same_into g.xi (Same.free g.xi hi), g.xn,
    fun b q r => by
      show upd T.i a o b = none
      rw [upd_ne (fun e => r (by rw [e]; exact h0))]
      exact g.fi b q r,
    g.fn⟩

/-- what a name stands for: a value that stays; a list of il, a list, a dict of one's own -/
inductive E where
  | v (l : Lv) (d : D)
  | ownI (ns : List Int)
  | own (l : Lv) (ds : List D)
  | dI (l : Lv) (kvs : List (Int × D))
  | dT (l : Lv) (kvs : List (List Int × D))
  | tr (l : Lv) (g : G)
  | dF (a : Addr) (o : Obj) (ws : List (List Key × V)) (l : Lv) (kvs : List (List Int × D))
abbrev PEnv := List (Option E)
def E.isOwn : E → Bool
  | .v _ _ => false
  | .tr _ _ => false
  | _ => true
def E.inn : E → List Addr
  | .tr _ g => adds g
  | _ => []
def keyI (k : Int) : Key := .inl k
def keyT (k : List Int) : List Key := k.map .inl
inductive RpK {κ κ' : Type} (f : κ → κ') (K : PySem.W.Frag) (H : Hp) : List (κ' × V) → List (κ × D) → Prop
  | nil : RpK f K H [] []
  | cons {k : κ} {v : V} {d : D} {vs : List (κ' × V)} {ds : List (κ × D)} : Rp K H v d → RpK f K H vs ds → RpK f K H ((f k, v) :: vs) ((k, d) :: ds)
theorem RpK.mono {κ κ' : Type} {f : κ → κ'} {K : PySem.W.Frag} {H H' : Hp} (e : Same H H') : ∀ {vs : List (κ' × V)} {ds : List (κ × D)}, RpK f K H vs ds → RpK f K H' vs ds
  | _, _, .nil => .nil
  | _, _, .cons h r => .cons (h.mono e) (r.mono e)
theorem RpK.length {κ κ' : Type} {f : κ → κ'} {K : PySem.W.Frag} {H : Hp} : ∀ {vs : List (κ' × V)} {ds : List (κ × D)}, RpK f K H vs ds → vs.length = ds.length
  | _, _, .nil => rfl
  | _, _, .cons _ r => by rw [List.length_cons, List.length_cons, r.length]

def AtE (K : PySem.W.Frag) (T : W3) (v : V) : E → Prop
  | .v l d => l ≠ .full ∧ Rp K (T.at l) v d
  | .ownI ns => ∃ a, v = .ref a ∧ T.h a = some (.lst (ns.map V.int)) ∧ T.i a = none
  | .own l ds => l ≠ .full ∧ ∃ a vs, v = .ref a ∧ T.h a = some (.lst vs) ∧ T.i a = none ∧ RpAll K (T.at l) vs ds
  | .dI l kvs => l ≠ .full ∧ ∃ a ws, v = .ref a ∧ T.h a = some (.dK ws) ∧ T.i a = none ∧ RpK keyI K (T.at l) ws kvs
  | .dT l kvs => l ≠ .full ∧ ∃ a ws, v = .ref a ∧ T.h a = some (.dT ws) ∧ T.i a = none ∧ RpK keyT K (T.at l) ws kvs
  | .tr l g => l ≠ .full ∧ AtG K (T.at l) T.h v g ∧ (∀ b, b ∈ adds g → T.i b = none) ∧ (adds g).Nodup
  | .dF a o ws l kvs => l ≠ .full ∧ v = .ref a ∧ T.h a = some (.frz o (.dT ws)) ∧ T.i a = none ∧ RpK keyT K (T.at l) ws kvs
/-- an own thing's address -/
theorem AtE.addr {K : PySem.W.Frag} {T : W3} {v : V} {e : E} (h : AtE K T v e) (o : e.isOwn = true) : ∃ a, v = .ref a ∧ T.i a = none ∧ T.h a ≠ none := by
  cases e with
  | v _ _ => cases o
  | ownI ns => obtain ⟨a, rfl, h1, h2⟩ := h; exact ⟨a, rfl, h2, by rw [h1]; intro z; cases z⟩
  | own l ds => obtain ⟨_, a, vs, rfl, h1, h2, _⟩ := h; exact ⟨a, rfl, h2, by rw [h1]; intro z; cases z⟩
  | dI l ds => obtain ⟨_, a, vs, rfl, h1, h2, _⟩ := h; exact ⟨a, rfl, h2, by rw [h1]; intro z; cases z⟩
  | dT l ds => obtain ⟨_, a, vs, rfl, h1, h2, _⟩ := h; exact ⟨a, rfl, h2, by rw [h1]; intro z; cases z⟩
  | tr _ _ => cases o
  | dF b _ _ _ _ => obtain ⟨_, rfl, h1, h2, _⟩ := h; exact ⟨b, rfl, h2, by rw [h1]; intro z; cases z⟩
theorem AtE.inn {K : PySem.W.Frag} {T : W3} {v : V} {e : E} (h : AtE K T v e) {b : Addr} (m : b ∈ e.inn) : T.i b = none ∧ T.h b ≠ none := by
  cases e with
  | tr l g => exact ⟨h.2.2.1 b m, h.2.1.dom b m⟩
  | v _ _ => cases m
  | ownI _ => cases m
  | own _ _ => cases m
  | dI _ _ => cases m
  | dT _ _ => cases m
  | dF _ _ _ _ _ => cases m
theorem AtE.grow {K : PySem.W.Frag} {T T' : W3} {v : V} {e : E} (g : Grow T T') (h : AtE K T v e) : AtE K T' v e := by
  cases e with
  | v l d => exact ⟨h.1, h.2.mono (g.at l)⟩
  | ownI ns => obtain ⟨a, rfl, h1, h2⟩ := h; exact ⟨a, rfl, g.ex _ _ h1, g.fi a h2 (by rw [h1]; intro z; cases z)⟩
  | own l ds => obtain ⟨z, a, vs, rfl, h1, h2, r⟩ := h; exact ⟨z, a, vs, rfl, g.ex _ _ h1, g.fi a h2 (by rw [h1]; intro z; cases z), r.mono (g.at l)⟩
  | dI l ds => obtain ⟨z, a, vs, rfl, h1, h2, r⟩ := h; exact ⟨z, a, vs, rfl, g.ex _ _ h1, g.fi a h2 (by rw [h1]; intro z; cases z), r.mono (g.at l)⟩
  | dT l ds => obtain ⟨z, a, vs, rfl, h1, h2, r⟩ := h; exact ⟨z, a, vs, rfl, g.ex _ _ h1, g.fi a h2 (by rw [h1]; intro z; cases z), r.mono (g.at l)⟩
  | tr l t => exact ⟨h.1, h.2.1.mono (g.at l) g.ex, fun b m => g.fi b (h.2.2.1 b m) (h.2.1.dom b m), h.2.2.2⟩
  | dF b o ws l kvs => obtain ⟨z, rfl, h1, h2, r⟩ := h; exact ⟨z, rfl, g.ex _ _ h1, g.fi b h2 (by rw [h1]; intro z; cases z), r.mono (g.at l)⟩
/-- another own object changes -/
theorem AtE.put {K : PySem.W.Frag} {T : W3} {v : V} {e : E} {a : Addr} {o : HO} (h : AtE K T v e) (n : e.isOwn = true → v ≠ .ref a) (n2 : a ∉ e.inn) : AtE K (T.put a o) v e := by
  cases e with
  | v l d =>
    cases l with
    | full => exact absurd rfl h.1
    | imm => exact h
    | frs => exact h
  | ownI ns =>
    obtain ⟨b, rfl, h1, h2⟩ := h
    exact ⟨b, rfl, by show upd T.h a o b = _; rw [upd_ne (fun z => n rfl (by rw [z]))]; exact h1, h2⟩
  | own l ds =>
    obtain ⟨z, b, vs, rfl, h1, h2, r⟩ := h
    refine ⟨z, b, vs, rfl, by show upd T.h a o b = _; rw [upd_ne (fun z => n rfl (by rw [z]))]; exact h1, h2, ?_⟩
    cases l with
    | full => exact absurd rfl z
    | imm => exact r
    | frs => exact r
  | dI l ds =>
    obtain ⟨z, b, vs, rfl, h1, h2, r⟩ := h
    refine ⟨z, b, vs, rfl, by show upd T.h a o b = _; rw [upd_ne (fun z => n rfl (by rw [z]))]; exact h1, h2, ?_⟩
    cases l with
    | full => exact absurd rfl z
    | imm => exact r
    | frs => exact r
  | dT l ds =>
    obtain ⟨z, b, vs, rfl, h1, h2, r⟩ := h
    refine ⟨z, b, vs, rfl, by show upd T.h a o b = _; rw [upd_ne (fun z => n rfl (by rw [z]))]; exact h1, h2, ?_⟩
    cases l with
    | full => exact absurd rfl z
    | imm => exact r
    | frs => exact r
  | tr l t =>
    refine ⟨h.1, ?_, h.2.2.1, h.2.2.2⟩
    have q := h.2.1.off (o := o) n2
    cases l with
    | full => exact absurd rfl h.1
    | imm => exact q
    | frs => exact q
  | dF b o' ws l kvs =>
    obtain ⟨z, rfl, h1, h2, r⟩ := h
    refine ⟨z, rfl, by show upd T.h a o b = _; rw [upd_ne (fun z => n rfl (by rw [z]))]; exact h1, h2, ?_⟩
    cases l with
    | full => exact absurd rfl z
    | imm => exact r
    | frs => exact r

/-- no name owns a -/
structure NotOwn (σ : L2.St) (ρ : PEnv) (a : Addr) : Prop where
  own : ∀ (j : Nat) (e' : E), ρ[j]? = some (some e') → e'.isOwn = true → σ[j]? ≠ some (some (V.ref a))
  inn : ∀ (j : Nat) (e' : E), ρ[j]? = some (some e') → a ∉ e'.inn

structure Fr (K : PySem.W.Frag) (T : W3) (σ : L2.St) (ρ : PEnv) : Prop where
  ok : Ok T
  len : σ.length = ρ.length
  val : ∀ (i : Nat) (e : E), ρ[i]? = some (some e) → ∃ v, σ[i]? = some (some v) ∧ AtE K T v e
  sep : ∀ (i j : Nat) (e e' : E) (a : Addr), ρ[i]? = some (some e) → ρ[j]? = some (some e') → e.isOwn = true → e'.isOwn = true → σ[i]? = some (some (V.ref a)) → σ[j]? = some (some (V.ref a)) → i = j
  sepT : ∀ (i j : Nat) (e e' : E) (b : Addr), ρ[i]? = some (some e) → ρ[j]? = some (some e') → b ∈ e.inn → b ∈ e'.inn → i = j
  sepO : ∀ (i j : Nat) (e e' : E) (b : Addr), ρ[i]? = some (some e) → ρ[j]? = some (some e') → b ∈ e.inn → e'.isOwn = true → σ[j]? ≠ some (some (V.ref b))
theorem Fr.grow {K : PySem.W.Frag} {T T' : W3} {σ : L2.St} {ρ : PEnv} (F : Fr K T σ ρ) (g : Grow T T') : Fr K T' σ ρ :=
  ⟨g.ok, F.len, fun i e h => let ⟨v, h1, h2⟩ := F.val i e h; ⟨v, h1, h2.grow g⟩, F.sep, F.sepT, F.sepO⟩
theorem getset {α : Type} {l : List α} {i j : Nat} {x y : α} (h : (l.set i x)[j]? = some y) : (i = j ∧ x = y) ∨ (i ≠ j ∧ l[j]? = some y) := by
  by_cases e : i = j
  · subst e
    by_cases hl : i < l.length
    · rw [List.getElem?_set_self hl] at h
      exact .inl ⟨rfl, Option.some.inj h⟩
    · rw [List.getElem?_eq_none (by rw [List.length_set]; omega)] at h
      cases h
  · rw [List.getElem?_set_ne e] at h
    exact .inr ⟨e, h⟩
theorem lt_of_set {α : Type} {l : List α} {i j : Nat} {x y : α} (h : (l.set i x)[j]? = some y) : j < l.length := by
  have := (List.getElem?_eq_some_iff.mp h).1
  rw [List.length_set] at this
  exact this
/-- a name is bound anew: the value, what it owns -/
theorem Fr.bind {K : PySem.W.Frag} {T : W3} {σ : L2.St} {ρ : PEnv} (F : Fr K T σ ρ) {i : Nat} {v : V} {e : E} (r : AtE K T v e) (no : e.isOwn = true → ∀ b, v = .ref b → NotOwn σ ρ b) (ni : ∀ b, b ∈ e.inn → NotOwn σ ρ b) :
    Fr K T (σ.set i (some v)) (ρ.set i (some e)) := by
  have hne : ∀ b, b ∈ e.inn → e.isOwn = false := fun b m => by
    cases e with
    | tr _ _ => rfl
    | v _ _ => rfl
    | ownI _ => cases m
    | own _ _ => cases m
    | dI _ _ => cases m
    | dT _ _ => cases m
    | dF _ _ _ _ _ => cases m
  refine ⟨F.ok, by rw [List.length_set, List.length_set, F.len], fun j e' h => ?_, fun j k e1 e2 b h1 h2 o1 o2 s1 s2 => ?_, fun j k e1 e2 b h1 h2 m1 m2 => ?_, fun j k e1 e2 b h1 h2 m1 o2 s2 => ?_⟩
  · have hj := lt_of_set h
    rcases getset h with ⟨rfl, q⟩ | ⟨n, q⟩
    · cases q
      exact ⟨v, by rw [List.getElem?_set_self (by rw [F.len]; exact hj)], r⟩
    · obtain ⟨w, w1, w2⟩ := F.val j e' q
      exact ⟨w, by rw [List.getElem?_set_ne n]; exact w1, w2⟩
  · rcases getset h1 with ⟨rfl, q⟩ | ⟨n1, q1⟩
    · rcases getset h2 with ⟨rfl, q'⟩ | ⟨n2, q2⟩
      · rfl
      · rcases getset s1 with ⟨_, z⟩ | ⟨z, _⟩
        · cases q; cases z
          rw [List.getElem?_set_ne n2] at s2
          exact absurd s2 ((no o1 b rfl).own k e2 q2 o2)
        · exact absurd rfl z
    · rcases getset h2 with ⟨rfl, q'⟩ | ⟨n2, q2⟩
      · rcases getset s2 with ⟨_, z⟩ | ⟨z, _⟩
        · cases q'; cases z
          rw [List.getElem?_set_ne n1] at s1
          exact absurd s1 ((no o2 b rfl).own j e1 q1 o1)
        · exact absurd rfl z
      · rw [List.getElem?_set_ne n1] at s1
        rw [List.getElem?_set_ne n2] at s2
        exact F.sep j k e1 e2 b q1 q2 o1 o2 s1 s2
  · rcases getset h1 with ⟨rfl, q⟩ | ⟨n1, q1⟩
    · cases q
      rcases getset h2 with ⟨rfl, q'⟩ | ⟨n2, q2⟩
      · rfl
      · exact absurd m2 ((ni b m1).inn k e2 q2)
    · rcases getset h2 with ⟨rfl, q'⟩ | ⟨n2, q2⟩
      · cases q'
        exact absurd m1 ((ni b m2).inn j e1 q1)
      · exact F.sepT j k e1 e2 b q1 q2 m1 m2
  · rcases getset h1 with ⟨rfl, q⟩ | ⟨n1, q1⟩
    · cases q
      rcases getset h2 with ⟨rfl, q'⟩ | ⟨n2, q2⟩
      · cases q'
        rw [hne b m1] at o2
        cases o2
      · rw [List.getElem?_set_ne n2] at s2
        exact (ni b m1).own k e2 q2 o2 s2
    · rcases getset h2 with ⟨rfl, q'⟩ | ⟨n2, q2⟩
      · cases q'
        rcases getset s2 with ⟨_, z⟩ | ⟨z, _⟩
        · cases z
          exact (no o2 b rfl).inn j e1 q1 m1
        · exact absurd rfl z
      · rw [List.getElem?_set_ne n2] at s2
        exact F.sepO j k e1 e2 b q1 q2 m1 o2 s2
/-- a name is bound to a value that stays -/
theorem Fr.set {K : PySem.W.Frag} {T : W3} {σ : L2.St} {ρ : PEnv} (F : Fr K T σ ρ) {i : Nat} {v : V} {l : Lv} {d : D} (hl : l ≠ .full) (r : Rp K (T.at l) v d) : Fr K T (σ.set i (some v)) (ρ.set i (some (.v l d))) :=
  F.bind (e := .v l d) ⟨hl, r⟩ (fun o => nomatch o) (fun b m => nomatch m)
/-- a name is bound to a thing of its own -/
theorem Fr.setOwn {K : PySem.W.Frag} {T : W3} {σ : L2.St} {ρ : PEnv} (F : Fr K T σ ρ) {i : Nat} {a : Addr} {e : E} (r : AtE K T (.ref a) e) (n : NotOwn σ ρ a) (ho : e.inn = [] := by rfl) : Fr K T (σ.set i (some (.ref a))) (ρ.set i (some e)) :=
  F.bind r (fun _ b h => by cases h; exact n) (fun b m => by rw [ho] at m; cases m)
theorem Fr.fresh {K : PySem.W.Frag} {T : W3} {σ : L2.St} {ρ : PEnv} (F : Fr K T σ ρ) {a : Addr} (h : T.h a = none) : NotOwn σ ρ a :=
  ⟨fun j e' h1 o s => by
    obtain ⟨v, h2, h3⟩ := F.val j e' h1
    obtain ⟨b, rfl, _, h4⟩ := h3.addr o
    rw [h2] at s
    cases s
    exact h4 h, fun j e' h1 m => by
    obtain ⟨v, h2, h3⟩ := F.val j e' h1
    exact (h3.inn m).2 h⟩
/-- a name is bound to a tree of its own -/
theorem Fr.setTr {K : PySem.W.Frag} {T : W3} {σ : L2.St} {ρ : PEnv} (F : Fr K T σ ρ) {i : Nat} {v : V} {l : Lv} {g : G} (r : AtE K T v (.tr l g)) (n : ∀ b, b ∈ adds g → NotOwn σ ρ b) : Fr K T (σ.set i (some v)) (ρ.set i (some (.tr l g))) :=
  F.bind r (fun o => nomatch o) n
/-- an object that no name owns changes -/
theorem Fr.put {K : PySem.W.Frag} {T : W3} {σ : L2.St} {ρ : PEnv} (F : Fr K T σ ρ) {a : Addr} {o : HO} (hi : T.i a = none) (n : NotOwn σ ρ a) : Fr K (T.put a o) σ ρ :=
  ⟨F.ok.put hi, F.len, fun j e h => by
    obtain ⟨v, h1, h2⟩ := F.val j e h
    exact ⟨v, h1, h2.put (fun z w => n.own j e h z (by rw [h1, w])) (n.inn j e h)⟩, F.sep, F.sepT, F.sepO⟩
/-- the own thing of name i changes -/
theorem Fr.chg {K : PySem.W.Frag} {T : W3} {σ : L2.St} {ρ : PEnv} (F : Fr K T σ ρ) {i : Nat} {a : Addr} {e e1 : E} {o : HO} (he : ρ[i]? = some (some e)) (ho : e.isOwn = true) (hs : σ[i]? = some (some (V.ref a))) (ho1 : e1.isOwn = true)
    (r : AtE K (T.put a o) (.ref a) e1) : Fr K (T.put a o) σ (ρ.set i (some e1)) := by
  obtain ⟨v, h1, h2⟩ := F.val i e he
  rw [hs] at h1
  cases h1
  obtain ⟨b, e2, hi, _⟩ := h2.addr ho
  cases e2
  have nin : e1.inn = [] := by cases e1 <;> first | rfl | cases ho1
  have get : ∀ {j : Nat} {e' : E}, (ρ.set i (some e1))[j]? = some (some e') → e'.isOwn = true → ∃ e0, ρ[j]? = some (some e0) ∧ e0.isOwn = true := fun {j e'} h o' => by
    rcases getset h with ⟨rfl, q⟩ | ⟨n, q⟩
    · exact ⟨e, he, ho⟩
    · exact ⟨e', q, o'⟩
  have getI : ∀ {j : Nat} {e' : E} {b : Addr}, (ρ.set i (some e1))[j]? = some (some e') → b ∈ e'.inn → ρ[j]? = some (some e') := fun {j e' b} h m => by
    rcases getset h with ⟨rfl, q⟩ | ⟨n, q⟩
    · cases q
      rw [nin] at m
      cases m
    · exact q
  refine ⟨F.ok.put hi, by rw [List.length_set, F.len], fun j e' h => ?_, fun j k e' e'' b h1 h2 o1 o2 s1 s2 => ?_, fun j k e' e'' b h1 h2 m1 m2 => F.sepT j k e' e'' b (getI h1 m1) (getI h2 m2) m1 m2, fun j k e' e'' b h1 h2 m1 o2 => ?_⟩
  · rcases getset h with ⟨rfl, q⟩ | ⟨n, q⟩
    · cases q
      exact ⟨_, hs, r⟩
    · obtain ⟨w, w1, w2⟩ := F.val j e' q
      exact ⟨w, w1, w2.put (fun z w' => n (F.sep i j e e' a he q ho z hs (by rw [w1, w']))) (fun m => F.sepO j i e' e a q he m ho hs)⟩
  · obtain ⟨f1, g1, g2⟩ := get h1 o1
    obtain ⟨f2, g3, g4⟩ := get h2 o2
    exact F.sep j k f1 f2 b g1 g3 g2 g4 s1 s2
  · obtain ⟨f2, g3, g4⟩ := get h2 o2
    exact F.sepO j k e' f2 b (getI h1 m1) g3 m1 g4
/-- a node of the tree of name i changes -/
theorem Fr.chgT {K : PySem.W.Frag} {T : W3} {σ : L2.St} {ρ : PEnv} (F : Fr K T σ ρ) {i : Nat} {a : Addr} {l : Lv} {g g1 : G} {o : HO} (he : ρ[i]? = some (some (.tr l g))) (ha : a ∈ adds g) (e : adds g1 = adds g)
    (r : ∀ v, σ[i]? = some (some v) → AtG K (T.at l) T.h v g → AtG K (T.at l) (upd T.h a o) v g1) : Fr K (T.put a o) σ (ρ.set i (some (.tr l g1))) := by
  obtain ⟨v, h1, h2⟩ := F.val i _ he
  have hi := h2.2.2.1 a ha
  have get : ∀ {j : Nat} {e' : E}, (ρ.set i (some (E.tr l g1)))[j]? = some (some e') → ∃ e0, ρ[j]? = some (some e0) ∧ e0.isOwn = e'.isOwn ∧ e0.inn = e'.inn := fun {j e'} h => by
    rcases getset h with ⟨rfl, q⟩ | ⟨n, q⟩
    · cases q
      exact ⟨_, he, rfl, e.symm⟩
    · exact ⟨e', q, rfl, rfl⟩
  refine ⟨F.ok.put hi, by rw [List.length_set, F.len], fun j e' h => ?_, fun j k e' e'' b h1 h2 o1 o2 s1 s2 => ?_, fun j k e' e'' b h1 h2 m1 m2 => ?_, fun j k e' e'' b h1 h2 m1 o2 => ?_⟩
  · rcases getset h with ⟨rfl, q⟩ | ⟨n, q⟩
    · cases q
      refine ⟨v, h1, h2.1, ?_, fun b m => h2.2.2.1 b (by rw [← e]; exact m), by rw [e]; exact h2.2.2.2⟩
      have z := r v h1 h2.2.1
      cases l with
      | full => exact absurd rfl h2.1
      | imm => exact z
      | frs => exact z
    · obtain ⟨w, w1, w2⟩ := F.val j e' q
      exact ⟨w, w1, w2.put (fun z w' => F.sepO i j _ e' a he q ha z (by rw [w1, w'])) (fun m => n (F.sepT i j _ e' a he q ha m))⟩
  · obtain ⟨f1, a1, b1, _⟩ := get h1
    obtain ⟨f2, a2, b2, _⟩ := get h2
    exact F.sep j k f1 f2 b a1 a2 (b1.trans o1) (b2.trans o2) s1 s2
  · obtain ⟨f1, a1, b1, c1⟩ := get h1
    obtain ⟨f2, a2, b2, c2⟩ := get h2
    exact F.sepT j k f1 f2 b a1 a2 (by rw [c1]; exact m1) (by rw [c2]; exact m2)
  · obtain ⟨f1, a1, b1, c1⟩ := get h1
    obtain ⟨f2, a2, b2, c2⟩ := get h2
    exact F.sepO j k f1 f2 b a1 a2 (by rw [c1]; exact m1) (b2.trans o2)
/-- the own thing of name m is kept as it is from now on -/
theorem Fr.keepO {K : PySem.W.Frag} {T : W3} {σ : L2.St} {ρ : PEnv} (F : Fr K T σ ρ) {m : Nat} {a : Addr} {e : E} {o : HO} {d : D} (he : ρ[m]? = some (some e)) (ho : e.isOwn = true) (hs : σ[m]? = some (some (V.ref a))) (hh : T.h a = some o) (hi : T.i a = none)
    (r : Rp K (T.fix a o).n (.ref a) d) : Gw T (T.fix a o) ∧ Fr K (T.fix a o) σ (ρ.set m (some (.v .frs d))) := by
  have hn := F.ok.n_none' hi
  have si : Same T.i (T.fix a o).i := same_new hi
  have sn : Same T.n (T.fix a o).n := same_new hn
  have ok : Ok (T.fix a o) := ⟨same_both F.ok.ni, same_up F.ok.ih hh⟩
  refine ⟨⟨ok, fun _ h => h, si, sn, fun b h1 h2 _ => ?_⟩, ok, by rw [List.length_set, F.len], fun j e' h => ?_, fun j k e' e'' b h1 h2 o1 o2 => ?_, fun j k e' e'' b h1 h2 m1 m2 => ?_, fun j k e' e'' b h1 h2 m1 o2 => ?_⟩
  · show upd T.n a o b = none
    rw [upd_ne (fun z => h2 (by rw [z]; exact hi))]
    exact h1
  · rcases getset h with ⟨rfl, q⟩ | ⟨n, q⟩
    · cases q
      exact ⟨_, hs, by decide, r⟩
    · obtain ⟨w, w1, w2⟩ := F.val j e' q
      refine ⟨w, w1, ?_⟩
      have ni : ∀ b, b ≠ a → T.i b = none → (T.fix a o).i b = none := fun b hb h => by
        show upd T.i a o b = none
        rw [upd_ne hb]
        exact h
      have na : ∀ b, e'.isOwn = true → w = .ref b → b ≠ a := fun b ob hb z => by
        subst z
        subst hb
        exact n (F.sep m j e e' b he q ho ob hs w1)
      have nt : ∀ b, b ∈ e'.inn → b ≠ a := fun b mb z => by
        subst z
        exact F.sepO j m e' e b q he mb ho hs
      cases e' with
      | v l d' =>
        refine ⟨w2.1, ?_⟩
        cases l with
        | full => exact absurd rfl w2.1
        | imm => exact w2.2.mono si
        | frs => exact w2.2.mono sn
      | ownI ns => obtain ⟨b, rfl, h1, h2⟩ := w2; exact ⟨b, rfl, h1, ni b (na b rfl rfl) h2⟩
      | own l ds =>
        obtain ⟨z, b, vs, rfl, h1, h2, rr⟩ := w2
        refine ⟨z, b, vs, rfl, h1, ni b (na b rfl rfl) h2, ?_⟩
        cases l with
        | full => exact absurd rfl z
        | imm => exact rr.mono si
        | frs => exact rr.mono sn
      | dI l ds =>
        obtain ⟨z, b, vs, rfl, h1, h2, rr⟩ := w2
        refine ⟨z, b, vs, rfl, h1, ni b (na b rfl rfl) h2, ?_⟩
        cases l with
        | full => exact absurd rfl z
        | imm => exact rr.mono si
        | frs => exact rr.mono sn
      | dT l ds =>
        obtain ⟨z, b, vs, rfl, h1, h2, rr⟩ := w2
        refine ⟨z, b, vs, rfl, h1, ni b (na b rfl rfl) h2, ?_⟩
        cases l with
        | full => exact absurd rfl z
        | imm => exact rr.mono si
        | frs => exact rr.mono sn
      | dF b o' ws l kvs =>
        obtain ⟨z, rfl, h1, h2, rr⟩ := w2
        refine ⟨z, rfl, h1, ni b (na b rfl rfl) h2, ?_⟩
        cases l with
        | full => exact absurd rfl z
        | imm => exact rr.mono si
        | frs => exact rr.mono sn
      | tr l g =>
        refine ⟨w2.1, ?_, fun b mb => ni b (nt b mb) (w2.2.2.1 b mb), w2.2.2.2⟩
        cases l with
        | full => exact absurd rfl w2.1
        | imm => exact w2.2.1.mono si (Same.refl _)
        | frs => exact w2.2.1.mono sn (Same.refl _)
  · rcases getset h1 with ⟨_, q⟩ | ⟨n1, q1⟩
    · cases q; cases o1
    · rcases getset h2 with ⟨_, q⟩ | ⟨n2, q2⟩
      · cases q; cases o2
      · exact F.sep j k e' e'' b q1 q2 o1 o2
  · rcases getset h1 with ⟨_, q⟩ | ⟨n1, q1⟩
    · cases q; cases m1
    · rcases getset h2 with ⟨_, q⟩ | ⟨n2, q2⟩
      · cases q; cases m2
      · exact F.sepT j k e' e'' b q1 q2 m1 m2
  · rcases getset h1 with ⟨_, q⟩ | ⟨n1, q1⟩
    · cases q; cases m1
    · rcases getset h2 with ⟨_, q⟩ | ⟨n2, q2⟩
      · cases q; cases o2
      · exact F.sepO j k e' e'' b q1 q2 m1 o2
/-- fewer names are spoken of -/
theorem Fr.forget {K : PySem.W.Frag} {T : W3} {σ : L2.St} {ρ ρ' : PEnv} (F : Fr K T σ ρ) (hl : ρ'.length = ρ.length) (h : ∀ (i : Nat) (e : E), ρ'[i]? = some (some e) → ρ[i]? = some (some e)) : Fr K T σ ρ' :=
  ⟨F.ok, F.len.trans hl.symm, fun i e q => F.val i e (h i e q), fun i j e e' a h1 h2 => F.sep i j e e' a (h i e h1) (h j e' h2), fun i j e e' a h1 h2 => F.sepT i j e e' a (h i e h1) (h j e' h2), fun i j e e' a h1 h2 => F.sepO i j e e' a (h i e h1) (h j e' h2)⟩

/-! ### judgements -/
def wE (X : Cx) (e : Expr) : TE := fun σ H Q => ∀ pins s, Inv X pins σ H s → wpAny (model X.prog X.w) X.A (eval e X.env) (EP X pins σ Q) X.xe s
def wT (X : Cx) (e : Expr) : TT := fun σ H Q => ∀ pins s, Inv X pins σ H s → wpAny (model X.prog X.w) X.A (isTrue e X.env (eval e X.env)) (TP X pins σ Q) X.xe s
def wW (X : Cx) (e : Expr) : TT := fun σ H Q => ∀ (whole : Sem Value) pins s, Inv X pins σ H s → wpAny (model X.prog X.w) X.A (isTrue e X.env whole) (TP X pins σ Q) X.xe s
def wA (X : Cx) (es : List Expr) : TA := fun σ H Q => ∀ (pos : Pos) pins s, Inv X pins σ H s → wpAny (model X.prog X.w) X.A (spliced (backTo pos (starEach es X.env))) (AP X pins σ Q) X.xe s
def wS (X : Cx) (st : Stmt) : TS := fun D σ H => ∀ pins s, Inv X pins σ H s → wpAny (model X.prog X.w) X.A (exec st X.env) (SP X pins D) X.xe s
def wSs (X : Cx) (st : List Stmt) : TS := fun D σ H => ∀ pins s, Inv X pins σ H s → wpAny (model X.prog X.w) X.A (execs st X.env) (SP X pins D) X.xe s
theorem pe_w {X : Cx} {e : Expr} : PE X e (wE X e) := ⟨fun pins s σ H Q I h => h pins s I⟩
theorem pt_w {X : Cx} {e : Expr} : PT X e (wT X e) := ⟨fun pins s σ H Q I h => h pins s I⟩
theorem pw_w {X : Cx} {e : Expr} : PW X e (wW X e) := ⟨fun wh pins s σ H Q I h => h wh pins s I⟩
theorem pa_w {X : Cx} {es : List Expr} : PA X es (wA X es) := ⟨fun pos pins s σ H Q I h => h pos pins s I⟩
theorem ps_w {X : Cx} {st : Stmt} : PS X st (wS X st) := ⟨fun pins s σ H D I h => h pins s I⟩
theorem pss_w {X : Cx} {st : List Stmt} : PSs X st (wSs X st) := ⟨fun pins s σ H D I h => h pins s I⟩

/-- e comes to d, held at l -/
def JE (X : Cx) (l : Lv) (e : Expr) (ρ : PEnv) (d : D) : Prop :=
  ∀ (T : W3) (σ : L2.St) (Q : VK), Fr X.K T σ ρ → (∀ v T', Grow T T' → Rp X.K (T'.at l) v d → Q v T'.h) → wE X e σ T.h Q
/-- a test comes to b -/
def JT (X : Cx) (e : Expr) (ρ : PEnv) (b : Bool) : Prop :=
  ∀ (T : W3) (σ : L2.St) (Q : Bool → Hp → Prop), Fr X.K T σ ρ → (∀ T', Grow T T' → Q b T'.h) → wT X e σ T.h Q
def JW (X : Cx) (e : Expr) (ρ : PEnv) (b : Bool) : Prop :=
  ∀ (T : W3) (σ : L2.St) (Q : Bool → Hp → Prop), Fr X.K T σ ρ → (∀ T', Grow T T' → Q b T'.h) → wW X e σ T.h Q
def JA (X : Cx) (l : Lv) (es : List Expr) (ρ : PEnv) (ds : List D) : Prop :=
  ∀ (T : W3) (σ : L2.St) (Q : List V → Hp → Prop), Fr X.K T σ ρ → (∀ vs T', Grow T T' → RpAll X.K (T'.at l) vs ds → Q vs T'.h) → wA X es σ T.h Q
/-- e comes to a new list of il; a new list -/
def JOI (X : Cx) (e : Expr) (ρ : PEnv) (ns : List Int) : Prop :=
  ∀ (T : W3) (σ : L2.St) (Q : VK), Fr X.K T σ ρ → (∀ a T', Grow T T' → T.h a = none → T'.i a = none → T'.h a = some (.lst (ns.map V.int)) → Q (.ref a) T'.h) → wE X e σ T.h Q
def JO (X : Cx) (l : Lv) (e : Expr) (ρ : PEnv) (ds : List D) : Prop :=
  ∀ (T : W3) (σ : L2.St) (Q : VK), Fr X.K T σ ρ → (∀ a vs T', Grow T T' → T.h a = none → T'.i a = none → T'.h a = some (.lst vs) → RpAll X.K (T'.at l) vs ds → Q (.ref a) T'.h) → wE X e σ T.h Q
structure PEnds where
  nx : PEnv → Prop
  rt : D → Prop
  bk : PEnv → Prop := fun _ => False
  ct : PEnv → Prop := fun _ => False
  ru : D → Prop := fun _ => False
  rf : PEnv → D → Prop := fun _ _ => False
/-- how pure ends are met -/
structure Meets (K : PySem.W.Frag) (T : W3) (P : PEnds) (D : Ends) : Prop where
  nx : ∀ ρ σ T', Gw T T' → Fr K T' σ ρ → P.nx ρ → D.nx σ T'.h
  rt : ∀ d v T', Gw T T' → P.rt d → Rp K T'.n v d → D.rt v T'.h
  bk : ∀ ρ σ T', Gw T T' → Fr K T' σ ρ → P.bk ρ → D.bk σ T'.h
  ct : ∀ ρ σ T', Gw T T' → Fr K T' σ ρ → P.ct ρ → D.ct σ T'.h
  ru : ∀ g v T', Gw T T' → P.ru (erase g) → AtG K T'.n T'.h v g → (∀ b, b ∈ adds g → T'.i b = none) → Nd g → D.rt v T'.h
  rf : ∀ ρ σ d v T', Gw T T' → Fr K T' σ ρ → P.rf ρ d → Rp K T'.n v d → D.rt v T'.h
theorem Meets.gw {K : PySem.W.Frag} {T T1 : W3} {P : PEnds} {D : Ends} (m : Meets K T P D) (g : Gw T T1) : Meets K T1 P D :=
  ⟨fun ρ σ T' g' => m.nx ρ σ T' (g.trans g'), fun d v T' g' => m.rt d v T' (g.trans g'), fun ρ σ T' g' => m.bk ρ σ T' (g.trans g'), fun ρ σ T' g' => m.ct ρ σ T' (g.trans g'), fun t v T' g' p r q nd => m.ru t v T' (g.trans g') p r q nd, fun ρ σ d v T' g' => m.rf ρ σ d v T' (g.trans g')⟩
def JS (X : Cx) (st : Stmt) (P : PEnds) (ρ : PEnv) : Prop := ∀ (T : W3) (σ : L2.St) (D : Ends), Fr X.K T σ ρ → Meets X.K T P D → wS X st D σ T.h
def JSs (X : Cx) (st : List Stmt) (P : PEnds) (ρ : PEnv) : Prop := ∀ (T : W3) (σ : L2.St) (D : Ends), Fr X.K T σ ρ → Meets X.K T P D → wSs X st D σ T.h

section
variable {X : Cx} {e a b c : Expr} {es : List Expr} {ρ : PEnv} {d d1 d2 d3 : D} {l la lb lc : Lv} {pos : Pos}

theorem JE.of {te : TE} (h : PE X e te) (r : ∀ (T : W3) (σ : L2.St) (Q : VK), Fr X.K T σ ρ → (∀ v T', Grow T T' → Rp X.K (T'.at l) v d → Q v T'.h) → te σ T.h Q) : JE X l e ρ d :=
  fun T σ Q F q pins s I => h.run pins s σ T.h Q I (r T σ Q F q)
theorem JT.of {tt : TT} {v : Bool} (h : PT X e tt) (r : ∀ (T : W3) (σ : L2.St) (Q : Bool → Hp → Prop), Fr X.K T σ ρ → (∀ T', Grow T T' → Q v T'.h) → tt σ T.h Q) : JT X e ρ v :=
  fun T σ Q F q pins s I => h.run pins s σ T.h Q I (r T σ Q F q)
theorem JW.of {tt : TT} {v : Bool} (h : PW X e tt) (r : ∀ (T : W3) (σ : L2.St) (Q : Bool → Hp → Prop), Fr X.K T σ ρ → (∀ T', Grow T T' → Q v T'.h) → tt σ T.h Q) : JW X e ρ v :=
  fun T σ Q F q wh pins s I => h.run wh pins s σ T.h Q I (r T σ Q F q)
theorem JW.pt {v : Bool} (h : JW X e ρ v) : JT X e ρ v := JT.of pw_w.pt h
theorem JA.of {ds : List D} {ta : TA} (h : PA X es ta) (r : ∀ (T : W3) (σ : L2.St) (Q : List V → Hp → Prop), Fr X.K T σ ρ → (∀ vs T', Grow T T' → RpAll X.K (T'.at l) vs ds → Q vs T'.h) → ta σ T.h Q) : JA X l es ρ ds :=
  fun T σ Q F q pos pins s I => h.run pos pins s σ T.h Q I (r T σ Q F q)
theorem JOI.of {te : TE} {ns : List Int} (h : PE X e te) (r : ∀ (T : W3) (σ : L2.St) (Q : VK), Fr X.K T σ ρ → (∀ a T', Grow T T' → T.h a = none → T'.i a = none → T'.h a = some (.lst (ns.map V.int)) → Q (.ref a) T'.h) → te σ T.h Q) : JOI X e ρ ns :=
  fun T σ Q F q pins s I => h.run pins s σ T.h Q I (r T σ Q F q)
theorem JO.of {te : TE} {ds : List D} (h : PE X e te) (r : ∀ (T : W3) (σ : L2.St) (Q : VK), Fr X.K T σ ρ → (∀ a vs T', Grow T T' → T.h a = none → T'.i a = none → T'.h a = some (.lst vs) → RpAll X.K (T'.at l) vs ds → Q (.ref a) T'.h) → te σ T.h Q) : JO X l e ρ ds :=
  fun T σ Q F q pins s I => h.run pins s σ T.h Q I (r T σ Q F q)
theorem JS.of {st : Stmt} {ts : TS} {P : PEnds} (h : PS X st ts) (r : ∀ (T : W3) (σ : L2.St) (D : Ends), Fr X.K T σ ρ → Meets X.K T P D → ts D σ T.h) : JS X st P ρ :=
  fun T σ D F m pins s I => h.run pins s σ T.h D I (r T σ D F m)
theorem JSs.of {st : List Stmt} {ts : TS} {P : PEnds} (h : PSs X st ts) (r : ∀ (T : W3) (σ : L2.St) (D : Ends), Fr X.K T σ ρ → Meets X.K T P D → ts D σ T.h) : JSs X st P ρ :=
  fun T σ D F m pins s I => h.run pins s σ T.h D I (r T σ D F m)
theorem JE.up {l' : Lv} (h : JE X l e ρ d) (z : Lv.le l l' = true) : JE X l' e ρ d := fun T σ Q F q => h T σ Q F fun v T' g r => q v T' g (r.mono (g.ok.le z))
theorem JE.sc {l' : Lv} (h : JE X l e ρ d) (z : scal d = true) : JE X l' e ρ d := fun T σ Q F q => h T σ Q F fun v T' g r => q v T' g (r.scal z)
/-- a new list is kept -/
theorem JOI.je {ns : List Int} (h : JOI X e ρ ns) : JE X .frs e ρ (.il ns) := fun T σ Q F q => h T σ Q F fun a T' g h0 hi hh =>
  q (.ref a) (T'.fix a _) (g.fix h0 hi hh) (.il upd_same)
theorem JO.je {ds : List D} (h : JO X l e ρ ds) (z : Lv.le l .imm = true := by rfl) : JE X l e ρ (.lst ds) := fun T σ Q F q => h T σ Q F fun a vs T' g h0 hi hh r => by
  cases l with
  | full => cases z
  | imm => exact q (.ref a) (T'.fixI a _) (g.fixI h0 hi hh) (.lst upd_same (r.mono (same_new hi)))
  | frs => exact q (.ref a) (T'.fix a _) (g.fix h0 hi hh) (.lst upd_same (r.mono (same_new (g.ok.n_none' hi))))
theorem JO.full {ds : List D} (h : JO X l e ρ ds) : JE X .full e ρ (.lst ds) := fun T σ Q F q => h T σ Q F fun a vs T' g h0 hi hh r => q (.ref a) T' g (.lst hh (r.mono g.ok.full))
theorem JO.up {l' : Lv} {ds : List D} (h : JO X l e ρ ds) (z : Lv.le l l' = true) : JO X l' e ρ ds := fun T σ Q F q => h T σ Q F fun a vs T' g h0 hi hh r => q a vs T' g h0 hi hh (r.mono (g.ok.le z))

/-! ### names and constants -/
theorem je_v (i : Nat) {x : Str} (hr : ρ[i]? = some (some (.v l d))) (hN : X.N[i]? = some x := by rfl) (hv : Vis X.env.scope x := by first | exact Or.inl rfl | exact Or.inr (Or.inl rfl) | exact Or.inr (Or.inr rfl)) (hd : (x == ("__debug__" : Str)) = false := by decide)
    (hcd : (x == ("__classdict__" : Str)) = false := by decide) : JE X l (.Name x pos) ρ d :=
  JE.of (pe_var hN hv hd hcd) fun T σ Q F q => by
    obtain ⟨v, h1, h2⟩ := F.val i _ hr
    exact ⟨v, h1, q v T (Grow.refl F.ok) h2.2⟩
/-- an own thing, read -/
theorem je_oI (i : Nat) {x : Str} {ns : List Int} (hr : ρ[i]? = some (some (.ownI ns))) (hN : X.N[i]? = some x := by rfl) (hv : Vis X.env.scope x := by first | exact Or.inl rfl | exact Or.inr (Or.inl rfl) | exact Or.inr (Or.inr rfl)) (hd : (x == ("__debug__" : Str)) = false := by decide)
    (hcd : (x == ("__classdict__" : Str)) = false := by decide) : JE X .full (.Name x pos) ρ (.il ns) :=
  JE.of (pe_var hN hv hd hcd) fun T σ Q F q => by
    obtain ⟨v, h1, a, rfl, h2, h3⟩ := F.val i _ hr
    exact ⟨_, h1, q _ T (Grow.refl F.ok) (.il h2)⟩
theorem je_o (i : Nat) {x : Str} {ds : List D} (hr : ρ[i]? = some (some (.own l ds))) (hN : X.N[i]? = some x := by rfl) (hv : Vis X.env.scope x := by first | exact Or.inl rfl | exact Or.inr (Or.inl rfl) | exact Or.inr (Or.inr rfl)) (hd : (x == ("__debug__" : Str)) = false := by decide)
    (hcd : (x == ("__classdict__" : Str)) = false := by decide) : JE X .full (.Name x pos) ρ (.lst ds) :=
  JE.of (pe_var hN hv hd hcd) fun T σ Q F q => by
    obtain ⟨v, h1, _, a, vs, rfl, h2, h3, r⟩ := F.val i _ hr
    exact ⟨_, h1, q _ T (Grow.refl F.ok) (.lst h2 (r.mono F.ok.full))⟩
theorem je_int {i : Int} {j : Nat} : JE X .frs (.Constant (.int i) j pos) ρ (.int i) := JE.of pe_int fun T σ Q F q => q _ T (Grow.refl F.ok) (.int i)
theorem je_bl {i : Bool} {j : Nat} : JE X .frs (.Constant (.bool i) j pos) ρ (.bl i) := JE.of pe_bl fun T σ Q F q => q _ T (Grow.refl F.ok) (.bl i)
theorem je_non {j : Nat} : JE X .frs (.Constant .none j pos) ρ .non := JE.of pe_non fun T σ Q F q => q _ T (Grow.refl F.ok) .non
theorem je_str {x : Str} {j : Nat} : JE X .frs (.Constant (.str x) j pos) ρ (.str x) := JE.of pe_str fun T σ Q F q => q _ T (Grow.refl F.ok) (.str x)

/-! ### operators -/
theorem je_op {op : Operator} {r : R2} (ho : OpR X (binaryOp op) r) (ha : JE X la a ρ d1) (hb : JE X lb b ρ d2)
    (hr : ∀ (T : W3) v u (Q : VK), Ok T → Rp X.K T.h v d1 → Rp X.K T.h u d2 → (∀ w T', Grow T T' → Rp X.K (T'.at l) w d3 → Q w T'.h) → r v u T.h Q) : JE X l (.BinOp a op b pos) ρ d3 :=
  JE.of (pe_op ho pe_w pe_w) fun T σ Q F q => ha T σ _ F fun v T1 g1 r1 => hb T1 σ _ (F.grow g1) fun u T2 g2 r2 =>
    hr T2 v u Q g2.ok ((r1.mono g1.ok.full).mono g2.ex) (r2.mono g2.ok.full) fun w T3 g3 r3 => q w T3 ((g1.trans g2).trans g3) r3
theorem je_cmp {op : CmpOp} {r : R2} (ho : OpR X (compareOp op) r) (ha : JE X la a ρ d1) (hb : JE X lb b ρ d2) (hm : behindInMarks op b = false)
    (hr : ∀ (T : W3) v u (Q : VK), Ok T → Rp X.K T.h v d1 → Rp X.K T.h u d2 → (∀ w T', Grow T T' → Rp X.K (T'.at l) w d3 → Q w T'.h) → r v u T.h Q) : JE X l (.Compare a [op] [b] pos) ρ d3 :=
  JE.of (pe_cmpR ho pe_w pe_w hm) fun T σ Q F q => ha T σ _ F fun v T1 g1 r1 => hb T1 σ _ (F.grow g1) fun u T2 g2 r2 =>
    hr T2 v u Q g2.ok ((r1.mono g1.ok.full).mono g2.ex) (r2.mono g2.ok.full) fun w T3 g3 r3 => q w T3 ((g1.trans g2).trans g3) r3
theorem r_I0 {g : Int → Int → V} {g' : Int → Int → D} (hg : ∀ i j H, Rp X.K H (g i j) (g' i j)) {i j : Int} (T : W3) (v u : V) (Q : VK) (o : Ok T) (r1 : Rp X.K T.h v (.int i)) (r2 : Rp X.K T.h u (.int j)) (q : ∀ w T', Grow T T' → Rp X.K (T'.at .frs) w (g' i j) → Q w T'.h) : rI0 g v u T.h Q := by
  cases r1
  cases r2
  exact ⟨i, j, rfl, rfl, q _ T (Grow.refl o) (hg i j _)⟩
theorem r_I {C : Int → Int → Prop} {g : Int → Int → V} {g' : Int → Int → D} (hg : ∀ i j H, Rp X.K H (g i j) (g' i j)) {i j : Int} (hc : C i j) (T : W3) (v u : V) (Q : VK) (o : Ok T) (r1 : Rp X.K T.h v (.int i)) (r2 : Rp X.K T.h u (.int j)) (q : ∀ w T', Grow T T' → Rp X.K (T'.at .frs) w (g' i j) → Q w T'.h) : rI C g v u T.h Q := by
  cases r1
  cases r2
  exact ⟨i, j, rfl, rfl, hc, q _ T (Grow.refl o) (hg i j _)⟩
variable {i j : Int}
theorem je_add (ha : JE X la a ρ (.int i)) (hb : JE X lb b ρ (.int j)) : JE X .frs (.BinOp a .Add b pos) ρ (.int (i + j)) := je_op op_add ha hb (r_I0 (g' := fun i j => .int (i + j)) fun _ _ _ => .int _)
theorem je_sub (ha : JE X la a ρ (.int i)) (hb : JE X lb b ρ (.int j)) : JE X .frs (.BinOp a .Sub b pos) ρ (.int (i - j)) := je_op op_sub ha hb (r_I0 (g' := fun i j => .int (i - j)) fun _ _ _ => .int _)
theorem je_mul (ha : JE X la a ρ (.int i)) (hb : JE X lb b ρ (.int j)) (hc : CMul i j) : JE X .frs (.BinOp a .Mult b pos) ρ (.int (i * j)) := je_op op_mul ha hb (r_I (g' := fun i j => .int (i * j)) (fun _ _ _ => .int _) hc)
theorem je_mulW (ha : JE X la a ρ (.int i)) (hb : JE X lb b ρ (.int j)) (hc : CMulW i j) : JE X .frs (.BinOp a .Mult b pos) ρ (.int (i * j)) := je_op op_mulW ha hb (r_I (g' := fun i j => .int (i * j)) (fun _ _ _ => .int _) hc)
theorem je_pow (ha : JE X la a ρ (.int i)) (hb : JE X lb b ρ (.int j)) (hc : CPow i j) : JE X .frs (.BinOp a .Pow b pos) ρ (.int (i ^ j.toNat)) := je_op op_pow ha hb (r_I (g' := fun i j => .int (i ^ j.toNat)) (fun _ _ _ => .int _) hc)
theorem je_mod (ha : JE X la a ρ (.int i)) (hb : JE X lb b ρ (.int j)) (hc : 0 < j) : JE X .frs (.BinOp a .Mod b pos) ρ (.int (i % j)) := je_op op_mod ha hb (r_I (g' := fun i j => .int (i % j)) (fun _ _ _ => .int _) hc)
theorem je_div (ha : JE X la a ρ (.int i)) (hb : JE X lb b ρ (.int j)) (hc : CDiv i j) : JE X .frs (.BinOp a .FloorDiv b pos) ρ (.int (i / j)) := je_op op_fdiv ha hb (r_I (g' := fun i j => .int (i / j)) (fun _ _ _ => .int _) hc)
theorem je_lt (ha : JE X la a ρ (.int i)) (hb : JE X lb b ρ (.int j)) : JE X .frs (.Compare a [.Lt] [b] pos) ρ (.bl (decide (i < j))) := je_cmp op_lt ha hb (nomark _) (r_I0 (g' := fun i j => .bl (decide (i < j))) fun _ _ _ => .bl _)
theorem je_le (ha : JE X la a ρ (.int i)) (hb : JE X lb b ρ (.int j)) : JE X .frs (.Compare a [.LtE] [b] pos) ρ (.bl (decide (i ≤ j))) := je_cmp op_le ha hb (nomark _) (r_I0 (g' := fun i j => .bl (decide (i ≤ j))) fun _ _ _ => .bl _)
theorem je_gt (ha : JE X la a ρ (.int i)) (hb : JE X lb b ρ (.int j)) : JE X .frs (.Compare a [.Gt] [b] pos) ρ (.bl (decide (j < i))) := je_cmp op_gt ha hb (nomark _) (r_I0 (g' := fun i j => .bl (decide (j < i))) fun _ _ _ => .bl _)
theorem je_ge (ha : JE X la a ρ (.int i)) (hb : JE X lb b ρ (.int j)) : JE X .frs (.Compare a [.GtE] [b] pos) ρ (.bl (decide (j ≤ i))) := je_cmp op_ge ha hb (nomark _) (r_I0 (g' := fun i j => .bl (decide (j ≤ i))) fun _ _ _ => .bl _)
theorem je_neg (ha : JE X la a ρ (.int i)) : JE X .frs (.UnaryOp .USub a pos) ρ (.int (-i)) := JE.of (pe_un un_neg pe_w) fun T σ Q F q => ha T σ _ F fun v T1 g1 r1 => by
  cases r1
  exact ⟨i, rfl, q _ T1 g1 (.int _)⟩

/-! ### == by pure data -/
mutual
def py : D → PyData
  | .non => .none
  | .bl b => .bool b
  | .int i => .int i
  | .str x => .str x
  | .il ns => .list (ns.map PyData.int)
  | .scr ns => .list (ns.map PyData.int)
  | .lst ds => .list (pys ds)
  | .tup ds => .tuple (pys ds)
  | .obj _ _ => .none
  | .ptr _ => .none
def pys : List D → List PyData
  | [] => []
  | d :: r => py d :: pys r
end
mutual
def plain : D → Bool
  | .non => true
  | .bl _ => true
  | .int _ => true
  | .str _ => true
  | .il _ => true
  | .scr _ => true
  | .lst ds => plains ds
  | .tup ds => plains ds
  | .obj _ _ => false
  | .ptr _ => false
def plains : List D → Bool
  | [] => true
  | d :: r => plain d && plains r
end
theorem DpAll.il {K : PySem.W.Frag} {H : Hp} : ∀ (ns : List Int), DpAll K H (ns.map V.int) (ns.map PyData.int)
  | [] => .nil
  | n :: r => .cons (.int n) (DpAll.il r)
mutual
theorem Rp.dp {K : PySem.W.Frag} {H : Hp} : ∀ {v : V} {d : D}, Rp K H v d → plain d = true → Dp K H v (py d)
  | _, _, .non, _ => by rw [py]; exact .non
  | _, _, .bl b, _ => by rw [py]; exact .bl b
  | _, _, .int i, _ => by rw [py]; exact .int i
  | _, _, .str x, _ => by rw [py]; exact .str x
  | _, _, .il (ns := ns) h, _ => by rw [py]; exact .lst (SqL.of h) (DpAll.il ns)
  | _, _, .scr (ns := ns) h, _ => by rw [py]; exact .lst h (DpAll.il ns)
  | _, _, .lst h r, p => by rw [py]; exact .lst (SqL.of h) (RpAll.dp r (by rw [plain] at p; exact p))
  | _, _, .tup h r, p => by rw [py]; exact .tup (SqT.of h) (RpAll.dp r (by rw [plain] at p; exact p))
  | _, _, .obj h r, p => by rw [plain] at p; cases p
theorem RpAll.dp {K : PySem.W.Frag} {H : Hp} : ∀ {vs : List V} {ds : List D}, RpAll K H vs ds → plains ds = true → DpAll K H vs (pys ds)
  | _, _, .nil, _ => by rw [pys]; exact .nil
  | _, _, .cons h r, p => by
    rw [pys]
    rw [plains, Bool.and_eq_true] at p
    exact .cons (Rp.dp h p.1) (RpAll.dp r p.2)
end
def eqD (d e : D) : Bool := PyData.eqv (py d) (py e)
theorem je_eqD (hu : X.A.units + 64 < cLine) (ha : JE X la a ρ d1) (hb : JE X lb b ρ d2) (p1 : plain d1 = true) (p2 : plain d2 = true) (s1 : SeqAt.shaped (py d1) = true) (s2 : SeqAt.shaped (py d2) = true) :
    JE X .frs (.Compare a [.Eq] [b] pos) ρ (.bl (eqD d1 d2)) :=
  je_cmp (op_eqD hu) ha hb (nomark _) fun T v u Q o r1 r2 q => ⟨_, _, r1.dp p1, r2.dp p2, s1, s2, q _ T (Grow.refl o) (.bl _)⟩
theorem je_neD (hu : X.A.units + 64 < cLine) (ha : JE X la a ρ d1) (hb : JE X lb b ρ d2) (p1 : plain d1 = true) (p2 : plain d2 = true) (s1 : SeqAt.shaped (py d1) = true) (s2 : SeqAt.shaped (py d2) = true) :
    JE X .frs (.Compare a [.NotEq] [b] pos) ρ (.bl (!eqD d1 d2)) :=
  je_cmp (op_neD hu) ha hb (nomark _) fun T v u Q o r1 r2 q => ⟨_, _, r1.dp p1, r2.dp p2, s1, s2, q _ T (Grow.refl o) (.bl _)⟩
end
end Lf

set_option Elab.async false
set_option linter.all false
set_option maxRecDepth 100000
set_option maxHeartbeats 2000000
set_option autoImplicit false
namespace Lf
open PySem L2
section
variable {X : Cx} {e a b c : Expr} {es : List Expr} {ρ : PEnv} {d d1 d2 d3 : D} {l la lb lc : Lv} {pos : Pos} {i j k : Int} {ns ms : List Int} {ds : List D} {kt : Nat}

/-! ### comparisons -/
def wC (X : Cx) (op : CmpOp) (a b : Expr) : TE := fun σ H Q => ∀ pins s, Inv X pins σ H s →
    wpAny (model X.prog X.w) X.A (eval a X.env) (fun v s₁ => wpAny (model X.prog X.w) X.A (eval b X.env) (fun u s₂ => wpAny (model X.prog X.w) X.A (compareOp op v u) (EP X pins σ Q) X.xe s₂) X.xe s₁) X.xe s
theorem pc_w {op : CmpOp} : PC X op a b (wC X op a b) := ⟨fun pins s σ H Q I h => h pins s I⟩
/-- a op b comes to v -/
def JC (X : Cx) (op : CmpOp) (a b : Expr) (ρ : PEnv) (v : Bool) : Prop :=
  ∀ (T : W3) (σ : L2.St) (Q : VK), Fr X.K T σ ρ → (∀ T', Grow T T' → Q (.bl v) T'.h) → wC X op a b σ T.h Q
theorem jc_of {op : CmpOp} {r : R2} {v : Bool} (ho : OpR X (compareOp op) r) (ha : JE X la a ρ d1) (hb : JE X lb b ρ d2)
    (hr : ∀ (T : W3) x u (Q : VK), Ok T → Rp X.K T.h x d1 → Rp X.K T.h u d2 → (∀ T', Grow T T' → Q (.bl v) T'.h) → r x u T.h Q) : JC X op a b ρ v :=
  fun T σ Q F q pins s I => by
    refine bin (ta := wE X a) (tb := wE X b) pe_w pe_w I (R := fun x y H2 => r x y H2 Q) ?_ fun v u s2 x y H2 I2 rx ry h => ho pins s2 σ H2 x y v u Q I2 rx ry h
    exact ha T σ _ F fun v T1 g1 r1 => hb T1 σ _ (F.grow g1) fun u T2 g2 r2 =>
      hr T2 v u Q g2.ok ((r1.mono g1.ok.full).mono g2.ex) (r2.mono g2.ok.full) fun T3 g3 => q T3 ((g1.trans g2).trans g3)
theorem je_c {op : CmpOp} {v : Bool} (h : JC X op a b ρ v) (h1 : behindInMarks op b = false := by exact bm_ns rfl) : JE X .frs (.Compare a [op] [b] pos) ρ (.bl v) :=
  JE.of (pe_cmp pc_w h1) fun T σ Q F q => h T σ Q F fun T' g => q _ T' g (.bl v)
theorem jt_c {op : CmpOp} {v : Bool} (h : JC X op a b ρ v) (h1 : behindInMarks op b = false := by exact bm_ns rfl) : JT X (.Compare a [op] [b] pos) ρ v :=
  JT.of (pt_cmp pc_w h1) fun T σ Q F q => h T σ _ F fun T' g => ⟨v, rfl, q T' g⟩
theorem jc_I0 {op : CmpOp} {g : Int → Int → Bool} (ho : OpR X (compareOp op) (rI0 fun i j => .bl (g i j))) (ha : JE X la a ρ (.int i)) (hb : JE X lb b ρ (.int j)) : JC X op a b ρ (g i j) :=
  jc_of ho ha hb fun T x u Q o r1 r2 q => by
    cases r1
    cases r2
    exact ⟨i, j, rfl, rfl, q T (Grow.refl o)⟩
theorem jc_lt (ha : JE X la a ρ (.int i)) (hb : JE X lb b ρ (.int j)) : JC X .Lt a b ρ (decide (i < j)) := jc_I0 (g := fun i j => decide (i < j)) op_lt ha hb
theorem jc_le (ha : JE X la a ρ (.int i)) (hb : JE X lb b ρ (.int j)) : JC X .LtE a b ρ (decide (i ≤ j)) := jc_I0 (g := fun i j => decide (i ≤ j)) op_le ha hb
theorem jc_gt (ha : JE X la a ρ (.int i)) (hb : JE X lb b ρ (.int j)) : JC X .Gt a b ρ (decide (j < i)) := jc_I0 (g := fun i j => decide (j < i)) op_gt ha hb
theorem jc_ge (ha : JE X la a ρ (.int i)) (hb : JE X lb b ρ (.int j)) : JC X .GtE a b ρ (decide (j ≤ i)) := jc_I0 (g := fun i j => decide (j ≤ i)) op_ge ha hb
theorem jc_eq (ha : JE X la a ρ (.int i)) (hb : JE X lb b ρ (.int j)) : JC X .Eq a b ρ (decide (i = j)) :=
  jc_of op_eq ha hb fun T x u Q o r1 r2 q => by
    cases r1
    cases r2
    refine ⟨rfl, ?_⟩
    rw [show decide (V.int i = V.int j) = decide (i = j) from decide_eq_decide.mpr ⟨fun h => V.int.inj h, fun h => by rw [h]⟩]
    exact q T (Grow.refl o)
theorem jc_ne (ha : JE X la a ρ (.int i)) (hb : JE X lb b ρ (.int j)) : JC X .NotEq a b ρ (!decide (i = j)) :=
  jc_of op_ne ha hb fun T x u Q o r1 r2 q => by
    cases r1
    cases r2
    refine ⟨rfl, ?_⟩
    rw [show decide (V.int i = V.int j) = decide (i = j) from decide_eq_decide.mpr ⟨fun h => V.int.inj h, fun h => by rw [h]⟩]
    exact q T (Grow.refl o)
theorem jc_eqB {p q : Bool} (ha : JE X la a ρ (.bl p)) (hb : JE X lb b ρ (.bl q)) : JC X .Eq a b ρ (p == q) :=
  jc_of op_eq ha hb fun T x u Q o r1 r2 z => by
    cases r1
    cases r2
    refine ⟨rfl, ?_⟩
    rw [dec_bl]
    exact z T (Grow.refl o)
theorem jc_neB {p q : Bool} (ha : JE X la a ρ (.bl p)) (hb : JE X lb b ρ (.bl q)) : JC X .NotEq a b ρ (!(p == q)) :=
  jc_of op_ne ha hb fun T x u Q o r1 r2 z => by
    cases r1
    cases r2
    refine ⟨rfl, ?_⟩
    rw [dec_bl]
    exact z T (Grow.refl o)
theorem jc_isB {p q : Bool} (ha : JE X la a ρ (.bl p)) (hb : JE X lb b ρ (.bl q)) : JC X .Is a b ρ (p == q) :=
  jc_of op_isBl ha hb fun T x u Q o r1 r2 z => by
    cases r1
    cases r2
    refine ⟨p, q, rfl, rfl, ?_⟩
    rw [show decide (p = q) = (p == q) by cases p <;> cases q <;> rfl]
    exact z T (Grow.refl o)
theorem jc_isnotB {p q : Bool} (ha : JE X la a ρ (.bl p)) (hb : JE X lb b ρ (.bl q)) : JC X .IsNot a b ρ (!(p == q)) :=
  jc_of op_notBl ha hb fun T x u Q o r1 r2 z => by
    cases r1
    cases r2
    refine ⟨p, q, rfl, rfl, ?_⟩
    rw [show decide (p = q) = (p == q) by cases p <;> cases q <;> rfl]
    exact z T (Grow.refl o)
/-- == of pure data -/
theorem jc_eqD (hu : X.A.units + 64 < cLine) (ha : JE X la a ρ d1) (hb : JE X lb b ρ d2) (p1 : plain d1 = true) (p2 : plain d2 = true) (s1 : SeqAt.shaped (py d1) = true) (s2 : SeqAt.shaped (py d2) = true) : JC X .Eq a b ρ (eqD d1 d2) :=
  jc_of (op_eqD hu) ha hb fun T v u Q o r1 r2 q => ⟨_, _, r1.dp p1, r2.dp p2, s1, s2, q T (Grow.refl o)⟩
theorem jc_neD (hu : X.A.units + 64 < cLine) (ha : JE X la a ρ d1) (hb : JE X lb b ρ d2) (p1 : plain d1 = true) (p2 : plain d2 = true) (s1 : SeqAt.shaped (py d1) = true) (s2 : SeqAt.shaped (py d2) = true) : JC X .NotEq a b ρ (!eqD d1 d2) :=
  jc_of (op_neD hu) ha hb fun T v u Q o r1 r2 q => ⟨_, _, r1.dp p1, r2.dp p2, s1, s2, q T (Grow.refl o)⟩
theorem canAll_ints : ∀ ns : List Int, PyData.canLayAll0 (ns.map PyData.int) = true
  | [] => rfl
  | n :: r => by
    rw [List.map_cons, PyData.canLayAll0, canAll_ints r]
    rfl
theorem depth_ints : ∀ ns : List Int, PyData.depthAll (ns.map PyData.int) ≤ 1
  | [] => by decide
  | n :: r => by
    have := depth_ints r
    rw [List.map_cons, PyData.depthAll]
    exact Nat.max_le.mpr ⟨by rw [PyData.depth]; exact Nat.zero_le _, this⟩
theorem shaped_ints (ns : List Int) : SeqAt.shaped (py (.il ns)) = true := by
  unfold SeqAt.shaped
  rw [py, PyData.canLay0, canAll_ints]
  have := depth_ints ns
  rw [Bool.true_and, decide_eq_true_eq, PyData.depth]
  exact Nat.le_trans (Nat.succ_le_succ this) (by decide)
theorem eqvAll_ints : ∀ xs ys : List Int, PyData.eqvAll (xs.map PyData.int) (ys.map PyData.int) = decide (xs = ys)
  | [], [] => rfl
  | x :: xs, [] => by rw [List.map_cons, List.map_nil, PyData.eqvAll]; simp
  | [], y :: ys => by rw [List.map_cons, List.map_nil, PyData.eqvAll]; simp
  | x :: xs, y :: ys => by
    rw [List.map_cons, List.map_cons, PyData.eqvAll, eqvAll_ints xs ys, PyData.eqv]
    by_cases h : x = y
    · subst h; simp
    · simp [h]
theorem eqD_il (xs ys : List Int) : eqD (.il xs) (.il ys) = decide (xs = ys) := by
  unfold eqD
  rw [py, py, PyData.eqv, eqvAll_ints]
theorem jc_eqL (hu : X.A.units + 64 < cLine) (ha : JE X la a ρ (.il ns)) (hb : JE X lb b ρ (.il ms)) : JC X .Eq a b ρ (decide (ns = ms)) := by
  have h := jc_eqD hu ha hb rfl rfl (shaped_ints ns) (shaped_ints ms)
  rw [eqD_il] at h
  exact h
theorem jc_neL (hu : X.A.units + 64 < cLine) (ha : JE X la a ρ (.il ns)) (hb : JE X lb b ρ (.il ms)) : JC X .NotEq a b ρ (!decide (ns = ms)) := by
  have h := jc_neD hu ha hb rfl rfl (shaped_ints ns) (shaped_ints ms)
  rw [eqD_il] at h
  exact h
/-- x in xs, of ints -/
theorem inV_ints (x : Int) : ∀ ns : List Int, inV (.int x) (ns.map V.int) = decide (x ∈ ns)
  | [] => by simp [inV]
  | n :: r => by
    have ih := inV_ints x r
    unfold inV at ih ⊢
    rw [List.map_cons, List.any_cons, ih]
    show (n == x || decide (x ∈ r)) = decide (x ∈ n :: r)
    by_cases h : n = x
    · subst h; simp
    · have h' : ¬ x = n := fun z => h z.symm
      simp [h, h']
theorem flat_ints : ∀ ns : List Int, (ns.map V.int).all flatV = true
  | [] => rfl
  | n :: r => by rw [List.map_cons, List.all_cons, flat_ints r]; rfl
theorem jc_in (ha : JE X la a ρ (.int i)) (hb : JE X lb b ρ (.il ns)) : JC X .In a b ρ (decide (i ∈ ns)) :=
  jc_of op_in_seq ha hb fun T x u Q o r1 r2 q => by
    cases r1
    cases r2 with
    | il h =>
      have h := SqL.of (K := X.K) h
      refine ⟨_, _, rfl, .inl h, rfl, flat_ints ns, ?_⟩
      rw [inV_ints]
      exact q T (Grow.refl o)
theorem jc_notin (ha : JE X la a ρ (.int i)) (hb : JE X lb b ρ (.il ns)) : JC X .NotIn a b ρ (!decide (i ∈ ns)) :=
  jc_of op_notIn_seq ha hb fun T x u Q o r1 r2 q => by
    cases r1
    cases r2 with
    | il h =>
      have h := SqL.of (K := X.K) h
      refine ⟨_, _, rfl, .inl h, rfl, flat_ints ns, ?_⟩
      rw [inV_ints]
      exact q T (Grow.refl o)
/-- d in ds, of pure data -/
theorem jc_inD (hu : X.A.units + 65 < cLine) (ha : JE X la a ρ d) (hb : JE X lb b ρ (.lst ds)) (p1 : plain d = true) (p2 : plains ds = true) (s1 : SeqAt.shaped (py d) = true) (s2 : SeqAt.shaped (.list (pys ds)) = true) :
    JC X .In a b ρ ((pys ds).any fun z => PyData.eqv z (py d)) :=
  jc_of (op_inD hu) ha hb fun T x u Q o r1 r2 q => by
    have h2 := r2.dp (by rw [plain]; exact p2)
    rw [py] at h2
    exact ⟨_, _, r1.dp p1, h2, s1, s2, q T (Grow.refl o)⟩
theorem jc_notinD (hu : X.A.units + 65 < cLine) (ha : JE X la a ρ d) (hb : JE X lb b ρ (.lst ds)) (p1 : plain d = true) (p2 : plains ds = true) (s1 : SeqAt.shaped (py d) = true) (s2 : SeqAt.shaped (.list (pys ds)) = true) :
    JC X .NotIn a b ρ (!(pys ds).any fun z => PyData.eqv z (py d)) :=
  jc_of (op_notInD hu) ha hb fun T x u Q o r1 r2 q => by
    have h2 := r2.dp (by rw [plain]; exact p2)
    rw [py] at h2
    exact ⟨_, _, r1.dp p1, h2, s1, s2, q T (Grow.refl o)⟩
/-- a op b op' c, of ints -/
theorem je_chain {op op' : CmpOp} {g g' : Int → Int → Bool} (ho : OpR X (compareOp op) (rI0 fun i j => .bl (g i j))) (ho' : OpR X (compareOp op') (rI0 fun i j => .bl (g' i j)))
    (ha : JE X la a ρ (.int i)) (hb : JE X lb b ρ (.int j)) (hc : g i j = true → JE X lc c ρ (.int k)) (hm : lastMarks [op, op'] [b, c] = false := by exact lm_ns rfl) :
    JE X .frs (.Compare a [op, op'] [b, c] pos) ρ (.bl (g i j && g' j k)) :=
  JE.of (pe_chain ho ho' pe_w pe_w pe_w hm) fun T σ Q F q => ha T σ _ F fun v T1 g1 r1 => hb T1 σ _ (F.grow g1) fun u T2 g2 r2 => by
    cases r1
    cases r2
    refine ⟨i, j, rfl, rfl, _, rfl, ?_⟩
    cases e : g i j with
    | false =>
      refine iteF ?_
      rw [e] at q
      exact q _ T2 (g1.trans g2) (.bl _)
    | true =>
      rw [e] at q
      refine iteT (hc e T2 σ _ ((F.grow g1).grow g2) fun w T3 g3 r3 => ?_)
      cases r3
      exact ⟨j, k, rfl, rfl, q _ T3 ((g1.trans g2).trans g3) (.bl _)⟩
theorem jt_chain {op op' : CmpOp} {g g' : Int → Int → Bool} (ho : OpR X (compareOp op) (rI0 fun i j => .bl (g i j))) (ho' : OpR X (compareOp op') (rI0 fun i j => .bl (g' i j)))
    (ha : JE X la a ρ (.int i)) (hb : JE X lb b ρ (.int j)) (hc : g i j = true → JE X lc c ρ (.int k)) (hm : lastMarks [op, op'] [b, c] = false := by exact lm_ns rfl) :
    JT X (.Compare a [op, op'] [b, c] pos) ρ (g i j && g' j k) :=
  JT.of (pt_chain ho ho' pe_w pe_w pe_w hm) fun T σ Q F q => ha T σ _ F fun v T1 g1 r1 => hb T1 σ _ (F.grow g1) fun u T2 g2 r2 => by
    cases r1
    cases r2
    refine ⟨i, j, rfl, rfl, _, rfl, ?_⟩
    cases e : g i j with
    | false =>
      refine iteF ⟨_, rfl, ?_⟩
      rw [e] at q
      exact q T2 (g1.trans g2)
    | true =>
      refine iteT (hc e T2 σ _ ((F.grow g1).grow g2) fun w T3 g3 r3 => ?_)
      cases r3
      rw [e] at q
      exact ⟨j, k, rfl, rfl, _, rfl, q T3 ((g1.trans g2).trans g3)⟩
abbrev gLt : Int → Int → Bool := fun i j => decide (i < j)
abbrev gLe : Int → Int → Bool := fun i j => decide (i ≤ j)
theorem je_ltlt (ha : JE X la a ρ (.int i)) (hb : JE X lb b ρ (.int j)) (hc : JE X lc c ρ (.int k)) (hm : lastMarks [.Lt, .Lt] [b, c] = false := by exact lm_ns rfl) : JE X .frs (.Compare a [.Lt, .Lt] [b, c] pos) ρ (.bl (decide (i < j) && decide (j < k))) := je_chain (g := gLt) (g' := gLt) op_lt op_lt ha hb (fun _ => hc) hm
theorem je_lelt (ha : JE X la a ρ (.int i)) (hb : JE X lb b ρ (.int j)) (hc : JE X lc c ρ (.int k)) (hm : lastMarks [.LtE, .Lt] [b, c] = false := by exact lm_ns rfl) : JE X .frs (.Compare a [.LtE, .Lt] [b, c] pos) ρ (.bl (decide (i ≤ j) && decide (j < k))) := je_chain (g := gLe) (g' := gLt) op_le op_lt ha hb (fun _ => hc) hm
theorem je_ltle (ha : JE X la a ρ (.int i)) (hb : JE X lb b ρ (.int j)) (hc : JE X lc c ρ (.int k)) (hm : lastMarks [.Lt, .LtE] [b, c] = false := by exact lm_ns rfl) : JE X .frs (.Compare a [.Lt, .LtE] [b, c] pos) ρ (.bl (decide (i < j) && decide (j ≤ k))) := je_chain (g := gLt) (g' := gLe) op_lt op_le ha hb (fun _ => hc) hm
theorem je_lele (ha : JE X la a ρ (.int i)) (hb : JE X lb b ρ (.int j)) (hc : JE X lc c ρ (.int k)) (hm : lastMarks [.LtE, .LtE] [b, c] = false := by exact lm_ns rfl) : JE X .frs (.Compare a [.LtE, .LtE] [b, c] pos) ρ (.bl (decide (i ≤ j) && decide (j ≤ k))) := je_chain (g := gLe) (g' := gLe) op_le op_le ha hb (fun _ => hc) hm
theorem jt_ltlt (ha : JE X la a ρ (.int i)) (hb : JE X lb b ρ (.int j)) (hc : JE X lc c ρ (.int k)) (hm : lastMarks [.Lt, .Lt] [b, c] = false := by exact lm_ns rfl) : JT X (.Compare a [.Lt, .Lt] [b, c] pos) ρ (decide (i < j) && decide (j < k)) := jt_chain (g := gLt) (g' := gLt) op_lt op_lt ha hb (fun _ => hc) hm
theorem jt_lelt (ha : JE X la a ρ (.int i)) (hb : JE X lb b ρ (.int j)) (hc : JE X lc c ρ (.int k)) (hm : lastMarks [.LtE, .Lt] [b, c] = false := by exact lm_ns rfl) : JT X (.Compare a [.LtE, .Lt] [b, c] pos) ρ (decide (i ≤ j) && decide (j < k)) := jt_chain (g := gLe) (g' := gLt) op_le op_lt ha hb (fun _ => hc) hm
theorem jt_ltle (ha : JE X la a ρ (.int i)) (hb : JE X lb b ρ (.int j)) (hc : JE X lc c ρ (.int k)) (hm : lastMarks [.Lt, .LtE] [b, c] = false := by exact lm_ns rfl) : JT X (.Compare a [.Lt, .LtE] [b, c] pos) ρ (decide (i < j) && decide (j ≤ k)) := jt_chain (g := gLt) (g' := gLe) op_lt op_le ha hb (fun _ => hc) hm
theorem jt_lele (ha : JE X la a ρ (.int i)) (hb : JE X lb b ρ (.int j)) (hc : JE X lc c ρ (.int k)) (hm : lastMarks [.LtE, .LtE] [b, c] = false := by exact lm_ns rfl) : JT X (.Compare a [.LtE, .LtE] [b, c] pos) ρ (decide (i ≤ j) && decide (j ≤ k)) := jt_chain (g := gLe) (g' := gLe) op_le op_le ha hb (fun _ => hc) hm

/-! ### tests -/
theorem jt_v {v : Bool} (h : JE X l e ρ (.bl v)) (he : ∀ whole, isTrue e X.env whole = (do let v ← whole; standAt e.pos; holding [v] (truthy v)) := by exact it_ns rfl) : JT X e ρ v :=
  JT.of (pt_val pe_w he) fun T σ Q F q => h T σ _ F fun w T' g r => by
    cases r
    exact ⟨v, rfl, q T' g⟩
theorem jt_not {v : Bool} (h : JT X a ρ v) : JT X (.UnaryOp .Not a pos) ρ (!v) := JT.of (pt_not pt_w) fun T σ Q F q => h T σ _ F q
theorem jw_and1 {v : Bool} (h : JT X a ρ v) : JW X (.BoolOp .And [a] pos) ρ v := JW.of (pw_and1 pt_w) fun T σ Q F q => h T σ _ F q
theorem jw_or1 {v : Bool} (h : JT X a ρ v) : JW X (.BoolOp .Or [a] pos) ρ v := JW.of (pw_or1 pt_w) fun T σ Q F q => h T σ _ F q
theorem jw_and {v u : Bool} (h : JT X a ρ v) (h2 : v = true → JW X (.BoolOp .And (b :: es) pos) ρ u) : JW X (.BoolOp .And (a :: b :: es) pos) ρ (v && u) :=
  JW.of (pw_and pt_w pw_w) fun T σ Q F q => h T σ _ F fun T1 g1 => by
    cases v with
    | false => exact iteF (q T1 g1)
    | true => exact iteT (h2 rfl T1 σ _ (F.grow g1) fun T2 g2 => q T2 (g1.trans g2))
theorem jw_or {v u : Bool} (h : JT X a ρ v) (h2 : v = false → JW X (.BoolOp .Or (b :: es) pos) ρ u) : JW X (.BoolOp .Or (a :: b :: es) pos) ρ (v || u) :=
  JW.of (pw_or pt_w pw_w) fun T σ Q F q => h T σ _ F fun T1 g1 => by
    cases v with
    | true => exact iteT (q T1 g1)
    | false => exact iteF (h2 rfl T1 σ _ (F.grow g1) fun T2 g2 => q T2 (g1.trans g2))
/-- as values -/
theorem je_one {op : BoolOp} (h : JE X l a ρ d) : JE X l (.BoolOp op [a] pos) ρ d := JE.of (pe_one pe_w) fun T σ Q F q => h T σ _ F q
theorem je_and {v u : Bool} (h : JE X la a ρ (.bl v)) (h2 : v = true → JE X .frs (.BoolOp .And (b :: es) pos) ρ (.bl u)) : JE X .frs (.BoolOp .And (a :: b :: es) pos) ρ (.bl (v && u)) :=
  JE.of (pe_and pe_w pe_w) fun T σ Q F q => h T σ _ F fun w T1 g1 r => by
    cases r
    refine ⟨v, rfl, ?_⟩
    cases v with
    | false => exact iteF (q _ T1 g1 (.bl false))
    | true => exact iteT (h2 rfl T1 σ _ (F.grow g1) fun w T2 g2 r2 => q w T2 (g1.trans g2) r2)
theorem je_or {v u : Bool} (h : JE X la a ρ (.bl v)) (h2 : v = false → JE X .frs (.BoolOp .Or (b :: es) pos) ρ (.bl u)) : JE X .frs (.BoolOp .Or (a :: b :: es) pos) ρ (.bl (v || u)) :=
  JE.of (pe_or pe_w pe_w) fun T σ Q F q => h T σ _ F fun w T1 g1 r => by
    cases r
    refine ⟨v, rfl, ?_⟩
    cases v with
    | true => exact iteT (q _ T1 g1 (.bl true))
    | false => exact iteF (h2 rfl T1 σ _ (F.grow g1) fun w T2 g2 r2 => q w T2 (g1.trans g2) r2)
theorem je_not {v : Bool} (h : JE X la a ρ (.bl v)) : JE X .frs (.UnaryOp .Not a pos) ρ (.bl (!v)) :=
  JE.of (pe_not pe_w) fun T σ Q F q => h T σ _ F fun w T1 g1 r => by
    cases r
    exact ⟨v, rfl, q _ T1 g1 (.bl _)⟩
theorem je_if {v : Bool} (h : JT X c ρ v) (h1 : v = true → JE X l a ρ d1) (h2 : v = false → JE X l b ρ d2) : JE X l (.IfExp c a b pos) ρ (if v = true then d1 else d2) :=
  JE.of (pe_ifExp pt_w pe_w pe_w) fun T σ Q F q => h T σ _ F fun T1 g1 => by
    cases v with
    | true => exact iteT (h1 rfl T1 σ _ (F.grow g1) fun w T2 g2 r2 => q w T2 (g1.trans g2) r2)
    | false => exact iteF (h2 rfl T1 σ _ (F.grow g1) fun w T2 g2 r2 => q w T2 (g1.trans g2) r2)
theorem je_ifI {v : Bool} (h : JT X c ρ v) (h1 : v = true → JE X la a ρ (.int i)) (h2 : v = false → JE X lb b ρ (.int j)) : JE X .frs (.IfExp c a b pos) ρ (.int (if v = true then i else j)) := by
  have z := je_if (pos := pos) h (fun t => (h1 t).sc (l' := .frs) rfl) (fun t => (h2 t).sc (l' := .frs) rfl)
  cases v <;> exact z

/-! ### arguments, displays -/
theorem ja_nil : JA X l [] ρ [] := JA.of pa_nil fun T σ Q F q => q _ T (Grow.refl F.ok) .nil
theorem ja_cons (h : JE X la e ρ d) (hr : JA X l es ρ ds) (z : Lv.le la l = true := by first | rfl | exact Lv.le_full _) (hs : starEach (e :: es) X.env = (false, eval e X.env) :: starEach es X.env := by exact star_c rfl) : JA X l (e :: es) ρ (d :: ds) :=
  JA.of (pa_cons pe_w pa_w hs) fun T σ Q F q => h T σ _ F fun v T1 g1 r1 => hr T1 σ _ (F.grow g1) fun vs T2 g2 r2 => q _ T2 (g1.trans g2) (.cons ((r1.mono (g1.ok.le z)).mono (g2.at l)) r2)
theorem small_of {n : Nat} (h : n ≤ 100000) : n ≤ sizeLine := Nat.le_trans h (by decide)
theorem small_lt {n : Nat} (h : n < 100000) : n < sizeLine := Nat.lt_of_lt_of_le h (by decide)
theorem jo_lst (h : JA X l es ρ ds) (z : Lv.le l .imm = true := by rfl) (hz : ds.length ≤ 100000 := by first | decide | exact of_decide_eq_true rfl) : JO X l (.List es pos) ρ ds :=
  JO.of (pe_lst pa_w) fun T σ Q F q => h T σ _ F fun vs T1 g1 r1 => ⟨by rw [r1.length]; exact small_of hz, fun p hp =>
    q p vs (T1.put p _) (g1.trans (Grow.put g1.ok hp)) (Same.free g1.ex hp) (g1.ok.i_none hp) upd_same (by
      cases l with
      | full => cases z
      | imm => exact r1
      | frs => exact r1)⟩
theorem joi_lst (h : JA X l es ρ (ns.map D.int)) (hz : ns.length ≤ 100000 := by first | decide | exact of_decide_eq_true rfl) : JOI X (.List es pos) ρ ns :=
  JOI.of (pe_lst pa_w) fun T σ Q F q => h T σ _ F fun vs T1 g1 r1 => by
    have e := r1.of_il
    subst e
    exact ⟨by rw [List.length_map]; exact small_of hz, fun p hp => q p (T1.put p _) (g1.trans (Grow.put g1.ok hp)) (Same.free g1.ex hp) (g1.ok.i_none hp) upd_same⟩
theorem joi_nil : JOI X (.List [] pos) ρ [] := joi_lst (l := .frs) (ns := []) ja_nil
theorem je_tup (h : JA X l es ρ ds) (z : Lv.le l .imm = true := by rfl) (hz : ds.length ≤ 100000 := by first | decide | exact of_decide_eq_true rfl) : JE X l (.Tuple es kt pos) ρ (.tup ds) :=
  JE.of (pe_tup pa_w) fun T σ Q F q => h T σ _ F fun vs T1 g1 r1 => ⟨by rw [r1.length]; exact small_of hz, fun p hp => by
    have G := g1.trans (Grow.put (x := .tup vs) g1.ok hp)
    cases l with
    | full => cases z
    | imm => exact q _ ((T1.put p _).fixI p _) (G.fixI (Same.free g1.ex hp) (g1.ok.i_none hp) upd_same) (.tup upd_same (r1.mono (same_new (g1.ok.i_none hp))))
    | frs => exact q _ ((T1.put p _).fix p _) (G.fix (Same.free g1.ex hp) (g1.ok.i_none hp) upd_same) (.tup upd_same (r1.mono (same_new (g1.ok.n_none hp))))⟩
end
end Lf

set_option Elab.async false
set_option linter.all false
set_option maxRecDepth 100000
set_option maxHeartbeats 2000000
set_option autoImplicit false
namespace Lf
open PySem L2
/-! ### items -/
/-- the item at i, Python's way -/
def gI (ns : List Int) (i : Int) : Int := if 0 ≤ i then ns.getD i.toNat 0 else ns.getD (i + ns.length).toNat 0
def gD (ds : List D) (i : Int) : D := if 0 ≤ i then ds.getD i.toNat .non else ds.getD (i + ds.length).toNat .non
def inR (n : Nat) (i : Int) : Prop := -(n : Int) ≤ i ∧ i < n
theorem atI_some {α : Type} {xs : List α} {i : Int} (h : inR xs.length i) : ∃ j, j < xs.length ∧ atI xs i = xs[j]? ∧ ((0 ≤ i ∧ j = i.toNat) ∨ (i < 0 ∧ j = (i + xs.length).toNat)) := by
  obtain ⟨h1, h2⟩ := h
  unfold atI ixN
  by_cases h0 : 0 ≤ i
  · rw [if_pos h0, if_pos h2]
    exact ⟨i.toNat, by omega, rfl, .inl ⟨h0, rfl⟩⟩
  · rw [if_neg h0, if_pos h1]
    exact ⟨(i + xs.length).toNat, by omega, rfl, .inr ⟨by omega, rfl⟩⟩
theorem atI_ints {ns : List Int} {i : Int} (h : inR ns.length i) : atI (ns.map V.int) i = some (.int (gI ns i)) := by
  obtain ⟨j, hj, e, q⟩ := atI_some (xs := ns.map V.int) (i := i) (by rw [List.length_map]; exact h)
  rw [List.length_map] at hj q
  rw [e, List.getElem?_map, List.getElem?_eq_getElem hj]
  unfold gI
  rcases q with ⟨h0, rfl⟩ | ⟨h0, rfl⟩
  · rw [if_pos h0, List.getD_eq_getElem?_getD, List.getElem?_eq_getElem hj]
    rfl
  · rw [if_neg (by omega), List.getD_eq_getElem?_getD, List.getElem?_eq_getElem hj]
    rfl
theorem atI_all {K : PySem.W.Frag} {H : Hp} {vs : List V} {ds : List D} (r : RpAll K H vs ds) {i : Int} (h : inR ds.length i) : ∃ v, atI vs i = some v ∧ Rp K H v (gD ds i) := by
  obtain ⟨j, hj, e, q⟩ := atI_some (xs := vs) (i := i) (by rw [r.length]; exact h)
  rw [r.length] at hj q
  obtain ⟨v, h1, h2⟩ := r.get (i := j) (d := ds[j]) (List.getElem?_eq_getElem hj)
  refine ⟨v, e.trans h1, ?_⟩
  have : gD ds i = ds[j] := by
    unfold gD
    rcases q with ⟨h0, rfl⟩ | ⟨h0, rfl⟩
    · rw [if_pos h0, List.getD_eq_getElem?_getD, List.getElem?_eq_getElem hj]
      rfl
    · rw [if_neg (by omega), List.getD_eq_getElem?_getD, List.getElem?_eq_getElem hj]
      rfl
  rw [this]
  exact h2
/-- a part of a list -/
def cutL {α : Type} (xs : List α) (lo hi : Option Int) : List α := (xs.drop (HT.sIx xs.length 0 lo)).take (HT.sIx xs.length xs.length hi - HT.sIx xs.length 0 lo)
theorem cutV_ints (ns : List Int) (lo hi : Option Int) : cutV (ns.map V.int) lo hi = (cutL ns lo hi).map V.int := by
  unfold cutV cutL
  rw [List.length_map, List.map_take, List.map_drop]
theorem cutV_all {K : PySem.W.Frag} {H : Hp} {vs : List V} {ds : List D} (r : RpAll K H vs ds) (lo hi : Option Int) : RpAll K H (cutV vs lo hi) (cutL ds lo hi) := by
  unfold cutV cutL
  rw [r.length]
  exact (r.drop _).take _
theorem cutL_to {α : Type} (xs : List α) {k : Int} (h : 0 ≤ k) : cutL xs none (some k) = xs.take k.toNat := by
  unfold cutL HT.sIx
  simp only [List.drop_zero, Nat.sub_zero]
  rw [if_neg (by omega)]
  exact List.take_eq_take_iff.mpr (by omega)
theorem cutL_from {α : Type} (xs : List α) {k : Int} (h : 0 ≤ k) : cutL xs (some k) none = xs.drop k.toNat := by
  unfold cutL HT.sIx
  simp only
  rw [if_neg (by omega)]
  have e : xs.drop (min k.toNat xs.length) = xs.drop k.toNat := by
    by_cases q : k.toNat ≤ xs.length
    · rw [Nat.min_eq_left q]
    · rw [Nat.min_eq_right (by omega), List.drop_eq_nil_of_le (Nat.le_refl _), List.drop_eq_nil_of_le (by omega)]
  rw [e]
  exact List.take_of_length_le (by rw [List.length_drop]; omega)
theorem cutL_mid {α : Type} (xs : List α) {i k : Int} (h : 0 ≤ i) (h' : 0 ≤ k) : cutL xs (some i) (some k) = (xs.drop i.toNat).take (k.toNat - i.toNat) := by
  unfold cutL HT.sIx
  simp only
  rw [if_neg (by omega), if_neg (by omega)]
  have e : xs.drop (min i.toNat xs.length) = xs.drop i.toNat := by
    by_cases q : i.toNat ≤ xs.length
    · rw [Nat.min_eq_left q]
    · rw [Nat.min_eq_right (by omega), List.drop_eq_nil_of_le (Nat.le_refl _), List.drop_eq_nil_of_le (by omega)]
  rw [e]
  exact List.take_eq_take_iff.mpr (by rw [List.length_drop]; omega)
theorem cutL_butlast {α : Type} (xs : List α) : cutL xs none (some (-1)) = xs.dropLast := by
  unfold cutL HT.sIx
  simp only [List.drop_zero, Nat.sub_zero]
  rw [if_pos (by decide), List.dropLast_eq_take]
  exact List.take_eq_take_iff.mpr (by omega)
theorem cutL_length {α : Type} (xs : List α) (lo hi : Option Int) : (cutL xs lo hi).length ≤ xs.length := by
  unfold cutL
  rw [List.length_take, List.length_drop]
  omega

section
variable {X : Cx} {e a b c : Expr} {es : List Expr} {ρ : PEnv} {d d1 d2 d3 : D} {l la lb lc : Lv} {pos p p2 : Pos} {i j k : Int} {ns ms : List Int} {ds : List D} {kt : Nat} {x : Str}

theorem je_ixI (ha : JE X la a ρ (.il ns)) (hb : JE X lb b ρ (.int i)) (h : inR ns.length i) (hs : PlainIx b := by exact px_ns rfl) : JE X .frs (.Subscript a b pos) ρ (.int (gI ns i)) :=
  JE.of (pe_ix ix_list pe_w pe_w hs) fun T σ Q F q => ha T σ _ F fun v T1 g1 r1 => hb T1 σ _ (F.grow g1) fun u T2 g2 r2 => by
    have r1' := (r1.mono g1.ok.full).mono g2.ex
    cases r1' with
    | il h1 =>
      have h1 := SqL.of (K := X.K) h1
      cases r2
      exact ⟨_, _, i, _, rfl, rfl, h1, atI_ints h, q _ T2 (g1.trans g2) (.int _)⟩
theorem je_ixD (ha : JE X la a ρ (.lst ds)) (hb : JE X lb b ρ (.int i)) (h : inR ds.length i) (hq : gD ds i = d := by rfl) (hs : PlainIx b := by exact px_ns rfl) : JE X la (.Subscript a b pos) ρ d := by
  subst hq
  exact JE.of (pe_ix ix_list pe_w pe_w hs) fun T σ Q F q => ha T σ _ F fun v T1 g1 r1 => hb T1 σ _ (F.grow g1) fun u T2 g2 r2 => by
    have r1' := r1.mono (g2.at la)
    cases r1' with
    | lst h1 rr =>
      have h1 := SqL.of (K := X.K) h1
      cases r2
      obtain ⟨w, e1, e2⟩ := atI_all rr h
      exact ⟨_, _, i, w, rfl, rfl, (g2.ok.full (a := la)).seq h1, e1, q _ T2 (g1.trans g2) e2⟩
theorem je_ixT (ha : JE X la a ρ (.tup ds)) (hb : JE X lb b ρ (.int i)) (h : inR ds.length i) (hq : gD ds i = d := by rfl) (hs : PlainIx b := by exact px_ns rfl) : JE X la (.Subscript a b pos) ρ d := by
  subst hq
  exact JE.of (pe_ix ix_tup pe_w pe_w hs) fun T σ Q F q => ha T σ _ F fun v T1 g1 r1 => hb T1 σ _ (F.grow g1) fun u T2 g2 r2 => by
    have r1' := r1.mono (g2.at la)
    cases r1' with
    | tup h1 rr =>
      have h1 := SqT.of (K := X.K) h1
      cases r2
      obtain ⟨w, e1, e2⟩ := atI_all rr h
      exact ⟨_, _, i, w, rfl, rfl, seqT (g2.ok.full (a := la)) h1, e1, q _ T2 (g1.trans g2) e2⟩
/-- an item of an own list -/
theorem je_ixO (n : Nat) (hr : ρ[n]? = some (some (.own l ds))) (hb : JE X lb b ρ (.int i)) (h : inR ds.length i) (hq : gD ds i = d := by rfl) (hN : X.N[n]? = some x := by rfl) (hv : Vis X.env.scope x := by first | exact Or.inl rfl | exact Or.inr (Or.inl rfl) | exact Or.inr (Or.inr rfl))
    (hd : (x == ("__debug__" : Str)) = false := by decide) (hcd : (x == ("__classdict__" : Str)) = false := by decide) (hs : PlainIx b := by exact px_ns rfl) : JE X l (.Subscript (.Name x p) b pos) ρ d := by
  subst hq
  exact JE.of (pe_ix ix_list (pe_var hN hv hd hcd) pe_w hs) fun T σ Q F q => by
    obtain ⟨v, h1, hl, a, vs, rfl, h2, h3, r⟩ := F.val n _ hr
    refine ⟨_, h1, hb T σ _ F fun u T2 g2 r2 => ?_⟩
    cases r2
    obtain ⟨w, e1, e2⟩ := atI_all (r.mono (g2.at l)) h
    exact ⟨_, _, i, w, rfl, rfl, SqL.of (g2.ex _ _ h2), e1, q _ T2 g2 e2⟩

/-! ### slices -/
def wO (X : Cx) (e : Option Expr) : TO := fun σ H Q => ∀ pins s, Inv X pins σ H s → wpAny (model X.prog X.w) X.A (evalPart e X.env) (fun u s' => ∃ o H', Inv X pins σ H' s' ∧ IsPart u o ∧ Q o H') X.xe s
theorem po_w {eo : Option Expr} : PO X eo (wO X eo) := ⟨fun pins s σ H Q I h => h pins s I⟩
def JP (X : Cx) (e : Option Expr) (ρ : PEnv) (o : Option Int) : Prop :=
  ∀ (T : W3) (σ : L2.St) (Q : Option Int → Hp → Prop), Fr X.K T σ ρ → (∀ T', Grow T T' → Q o T'.h) → wO X e σ T.h Q
theorem jp_none : JP X none ρ none := fun T σ Q F q pins s I => po_none.run pins s σ T.h Q I (q T (Grow.refl F.ok))
theorem jp_some (h : JE X l e ρ (.int i)) : JP X (some e) ρ (some i) := fun T σ Q F q pins s I => (po_some pe_w).run pins s σ T.h Q I (h T σ _ F fun v T' g r => by
  cases r
  exact ⟨i, rfl, q T' g⟩)
variable {lo hi : Option Expr} {ol oh : Option Int}
theorem joi_cut (ha : JE X la a ρ (.il ns)) (hl : JP X lo ρ ol) (hh : JP X hi ρ oh) : JOI X (.Subscript a (.Slice lo hi none p2) pos) ρ (cutL ns ol oh) :=
  JOI.of (pe_slice sl_list pe_w po_w po_w) fun T σ Q F q => ha T σ _ F fun v T1 g1 r1 => hl T1 σ _ (F.grow g1) fun T2 g2 => hh T2 σ _ ((F.grow g1).grow g2) fun T3 g3 => by
    have r1' := ((r1.mono g1.ok.full).mono g2.ex).mono g3.ex
    cases r1' with
    | il h1 =>
      have h1 := SqL.of (K := X.K) h1
      have G := (g1.trans g2).trans g3
      refine ⟨_, _, rfl, h1, fun p hp => ?_⟩
      rw [cutV_ints]
      exact q p (T3.put p _) (G.trans (Grow.put G.ok hp)) (Same.free G.ex hp) (G.ok.i_none hp) upd_same
theorem jo_cut (ha : JE X la a ρ (.lst ds)) (hl : JP X lo ρ ol) (hh : JP X hi ρ oh) (z : Lv.le la .imm = true := by rfl) : JO X la (.Subscript a (.Slice lo hi none p2) pos) ρ (cutL ds ol oh) :=
  JO.of (pe_slice sl_list pe_w po_w po_w) fun T σ Q F q => ha T σ _ F fun v T1 g1 r1 => hl T1 σ _ (F.grow g1) fun T2 g2 => hh T2 σ _ ((F.grow g1).grow g2) fun T3 g3 => by
    have G := (g1.trans g2).trans g3
    have r1' := r1.mono ((g2.trans g3).at la)
    cases r1' with
    | lst h1 rr =>
      have h1 := SqL.of (K := X.K) h1
      refine ⟨_, _, rfl, (G.ok.full (a := la)).seq h1, fun p hp => ?_⟩
      refine q p _ (T3.put p _) (G.trans (Grow.put G.ok hp)) (Same.free G.ex hp) (G.ok.i_none hp) upd_same ?_
      cases la with
      | full => cases z
      | imm => exact cutV_all rr _ _
      | frs => exact cutV_all rr _ _
theorem joi_rev {k : Nat} {p1 p3 : Pos} (ha : JE X la a ρ (.il ns)) : JOI X (.Subscript a (.Slice none none (some (.UnaryOp .USub (.Constant (.int 1) k p1) p2)) p3) pos) ρ ns.reverse :=
  JOI.of (pe_revL pe_w) fun T σ Q F q => ha T σ _ F fun v T1 g1 r1 => by
    have r1' := r1.mono g1.ok.full
    cases r1' with
    | il h1 =>
      have h1 := SqL.of (K := X.K) h1
      refine ⟨_, _, rfl, h1, fun p hp => ?_⟩
      rw [← List.map_reverse]
      exact q p (T1.put p _) (g1.trans (Grow.put g1.ok hp)) (Same.free g1.ex hp) (g1.ok.i_none hp) upd_same

/-! ### lists put together -/
theorem plain_get {h : Heap} {q : Addr} {its : Array Value} (x : PlainL h q its) : ∃ n sl dd, h.get? q = some { cls := .type "list", dict := dd, data := .seq its n, slots := sl } := by
  obtain ⟨o, n, ho, hc, hdd, hd⟩ := x
  obtain ⟨c, dd, dt, sl⟩ := o
  simp only at hc hdd hd
  subst hc hdd hd
  exact ⟨n, sl, none, ho⟩
end
end Lf

set_option Elab.async false
set_option linter.all false
set_option maxRecDepth 100000
set_option maxHeartbeats 2000000
set_option autoImplicit false
namespace L2
open PySem PySem.Spec PyProof.Rows
/-- list + list, wherever they are read -/
def rCatS (K : PySem.W.Frag) : R2 := fun x y H Q => ∃ l b xs zs, x = .ref l ∧ y = .ref b ∧ SqL K H l xs ∧ SqL K H b zs ∧ xs.length + zs.length ≤ sizeLine ∧ ∀ p, H p = none → Q (.ref p) (upd H p (.lst (xs ++ zs)))
theorem op_catS {X : Cx} : OpR X (binaryOp .Add) (rCatS X.K) := by
  intro pins s σ H x y v u Q I rx ry h
  obtain ⟨l, b, xs, zs, rfl, rfl, hH, hB, hz, q⟩ := h
  cases rx
  cases ry
  obtain ⟨its, r, p1, _⟩ := I.list hH
  obtain ⟨its2, r2, p2, _⟩ := I.list hB
  obtain ⟨n, sl, dd, ho⟩ := Lf.plain_get p1
  obtain ⟨n2, sl2, dd2, ho2⟩ := Lf.plain_get p2
  have e1 := r.length
  have e2 := r2.length
  refine concat_meets ⟨_, ho, rfl⟩ ⟨_, ho2, rfl⟩ noFill_list_add seq_list_add PySem.F.slot_list_add PySem.F.entry_list_add (PySem.F.args_list_add_2 _ _) (list_addW l b its.toArray its2.toArray n n2 dd dd2 sl sl2 (by simp; omega)) ⟨ho, ho2, ?_⟩
  have ea : its.toArray ++ its2.toArray = (its ++ its2).toArray := by simp
  rw [ea]
  exact ⟨.ref _, _, I.lnew (t' := s.toks) (r.append r2) (by rw [List.length_append]; omega), rfl, q _ I.fresh⟩
end L2
namespace Lf
open PySem L2
section
variable {X : Cx} {e a b c : Expr} {es : List Expr} {ρ : PEnv} {d d1 d2 d3 : D} {l la lb lc : Lv} {pos p p2 : Pos} {i j k : Int} {ns ms : List Int} {ds fs : List D} {kt : Nat} {x : Str}
theorem joi_cat (ha : JE X la a ρ (.il ns)) (hb : JE X lb b ρ (.il ms)) (hz : ns.length + ms.length ≤ 100000) : JOI X (.BinOp a .Add b pos) ρ (ns ++ ms) :=
  JOI.of (pe_op op_catS pe_w pe_w) fun T σ Q F q => ha T σ _ F fun v T1 g1 r1 => hb T1 σ _ (F.grow g1) fun u T2 g2 r2 => by
    have r1' := (r1.mono g1.ok.full).mono g2.ex
    have r2' := r2.mono g2.ok.full
    cases r1' with
    | il h1 =>
      have h1 := SqL.of (K := X.K) h1
      cases r2' with
      | il h2 =>
        have h2 := SqL.of (K := X.K) h2
        refine ⟨_, _, _, _, rfl, rfl, h1, h2, by rw [List.length_map, List.length_map]; exact small_of hz, fun p hp => ?_⟩
        rw [← List.map_append]
        exact q p (T2.put p _) ((g1.trans g2).trans (Grow.put g2.ok hp)) (Same.free (g1.trans g2).ex hp) (g2.ok.i_none hp) upd_same
theorem jo_cat (ha : JE X la a ρ (.lst ds)) (hb : JE X lb b ρ (.lst fs)) (z1 : Lv.le la l = true := by rfl) (z2 : Lv.le lb l = true := by rfl) (z : Lv.le l .imm = true := by rfl) (hz : ds.length + fs.length ≤ 100000 := by first | decide | exact of_decide_eq_true rfl) : JO X l (.BinOp a .Add b pos) ρ (ds ++ fs) :=
  JO.of (pe_op op_catS pe_w pe_w) fun T σ Q F q => ha T σ _ F fun v T1 g1 r1 => hb T1 σ _ (F.grow g1) fun u T2 g2 r2 => by
    have r1' := (r1.mono (g1.ok.le z1)).mono (g2.at l)
    have r2' := r2.mono (g2.ok.le z2)
    cases r1' with
    | lst h1 rr =>
      have h1 := SqL.of (K := X.K) h1
      cases r2' with
      | lst h2 rr2 =>
        have h2 := SqL.of (K := X.K) h2
        refine ⟨_, _, _, _, rfl, rfl, g2.ok.full.seq h1, g2.ok.full.seq h2, by rw [rr.length, rr2.length]; exact small_of hz, fun p hp => ?_⟩
        refine q p _ (T2.put p _) ((g1.trans g2).trans (Grow.put g2.ok hp)) (Same.free (g1.trans g2).ex hp) (g2.ok.i_none hp) upd_same ?_
        cases l with
        | full => cases z
        | imm => exact rr.append rr2
        | frs => exact rr.append rr2

/-! ### built-in calls -/
theorem je_callB {id : String} {r : List V → Hp → VK → Prop} (hc : CallR X (.builtin id) r) (hm : X.mg x = none) (hv : bootBuiltins x = some (.builtin id)) (ha : JA X .full (e :: es) ρ ds)
    (hr : ∀ (T : W3) vs (Q : VK), Ok T → RpAll X.K T.h vs ds → (∀ v T', Grow T T' → Rp X.K (T'.at l) v d → Q v T'.h) → r vs T.h Q)
    (hg : Gl X x := by rfl) (hn : x ≠ "__name__" := by decide) (hdb : (x == ("__debug__" : Str)) = false := by decide)
    (he : starEach (e :: es) X.env = (false, eval e X.env) :: starEach es X.env := by exact star_c rfl) (hpl : (backTo pos (starEach es X.env)).any (·.1) = false := by exact back_ns rfl) : JE X l (.Call (.Name x p) (e :: es) [] pos) ρ d :=
  JE.of (pe_callB hc hg hm hv pa_w hn hdb he hpl) fun T σ Q F q => ha T σ _ F fun vs T1 g1 r1 => hr T1 vs Q g1.ok r1 fun v T2 g2 r2 => q v T2 (g1.trans g2) r2
theorem je_len (hm : X.mg "len" = none) (ha : JE X la e ρ (.il ns)) (hg : Gl X "len" := by rfl) (he : starEach [e] X.env = (false, eval e X.env) :: starEach [] X.env := by exact star_c rfl) (hpl : (backTo pos (starEach [] X.env)).any (·.1) = false := by exact back_ns rfl) :
    JE X .frs (.Call (.Name "len" p) [e] [] pos) ρ (.int ns.length) :=
  je_callB call_len_seq hm PySem.boot_len (ja_cons ha ja_nil (Lv.le_full _) he) (fun T vs Q o r q => by
    cases r with
    | cons r1 r2 =>
      cases r2
      cases r1 with
      | il h =>
        have h := SqL.of (K := X.K) h
        refine ⟨_, _, rfl, .inl h, ?_⟩
        rw [List.length_map]
        exact q _ T (Grow.refl o) (.int _)) hg (by decide) (by decide) he hpl
theorem je_lenD (hm : X.mg "len" = none) (ha : JE X la e ρ (.lst ds)) (hg : Gl X "len" := by rfl) (he : starEach [e] X.env = (false, eval e X.env) :: starEach [] X.env := by exact star_c rfl) (hpl : (backTo pos (starEach [] X.env)).any (·.1) = false := by exact back_ns rfl) :
    JE X .frs (.Call (.Name "len" p) [e] [] pos) ρ (.int ds.length) :=
  je_callB call_len_seq hm PySem.boot_len (ja_cons ha ja_nil (Lv.le_full _) he) (fun T vs Q o r q => by
    cases r with
    | cons r1 r2 =>
      cases r2
      cases r1 with
      | lst h rr =>
        have h := SqL.of (K := X.K) h
        refine ⟨_, _, rfl, .inl h, ?_⟩
        rw [rr.length]
        exact q _ T (Grow.refl o) (.int _)) hg (by decide) (by decide) he hpl
theorem je_lenT (hm : X.mg "len" = none) (ha : JE X la e ρ (.tup ds)) (hg : Gl X "len" := by rfl) (he : starEach [e] X.env = (false, eval e X.env) :: starEach [] X.env := by exact star_c rfl) (hpl : (backTo pos (starEach [] X.env)).any (·.1) = false := by exact back_ns rfl) :
    JE X .frs (.Call (.Name "len" p) [e] [] pos) ρ (.int ds.length) :=
  je_callB call_len_seq hm PySem.boot_len (ja_cons ha ja_nil (Lv.le_full _) he) (fun T vs Q o r q => by
    cases r with
    | cons r1 r2 =>
      cases r2
      cases r1 with
      | tup h rr =>
        have h := SqT.of (K := X.K) h
        refine ⟨_, _, rfl, .inr h, ?_⟩
        rw [rr.length]
        exact q _ T (Grow.refl o) (.int _)) hg (by decide) (by decide) he hpl
theorem je_max (hm : X.mg "max" = none) (ha : JE X la a ρ (.int i)) (hb : JE X lb b ρ (.int j)) (hc : X.calm = true := by rfl) (hg : Gl X "max" := by rfl) (hsa : starEach [a, b] X.env = (false, eval a X.env) :: starEach [b] X.env := by exact star_c rfl) (hs : starEach [b] X.env = (false, eval b X.env) :: starEach [] X.env := by exact star_c rfl)
    (hpl : (backTo pos (starEach [b] X.env)).any (·.1) = false := by exact back_ns rfl) : JE X .frs (.Call (.Name "max" p) [a, b] [] pos) ρ (.int (if j > i then j else i)) :=
  je_callB (call_max2 hc) hm (by decide +kernel) (ja_cons ha (ja_cons hb ja_nil (Lv.le_full _) hs) (Lv.le_full _) hsa) (fun T vs Q o r q => by
    cases r with
    | cons r1 r2 =>
      cases r2 with
      | cons r2 r3 =>
        cases r3
        cases r1
        cases r2
        exact ⟨i, j, rfl, q _ T (Grow.refl o) (.int _)⟩) hg (by decide) (by decide) hsa hpl
theorem je_sum (hm : X.mg "sum" = none) (ha : JE X la e ρ (.il ns)) (hc : X.calm = true := by rfl) (hg : Gl X "sum" := by rfl) (he : starEach [e] X.env = (false, eval e X.env) :: starEach [] X.env := by exact star_c rfl) (hpl : (backTo pos (starEach [] X.env)).any (·.1) = false := by exact back_ns rfl) :
    JE X .frs (.Call (.Name "sum" p) [e] [] pos) ρ (.int ns.sum) :=
  je_callB (cr_sum hc) hm (by decide +kernel) (ja_cons ha ja_nil (Lv.le_full _) he) (fun T vs Q o r q => by
    cases r with
    | cons r1 r2 =>
      cases r2
      cases r1 with
      | il h =>
        have h := SqL.of (K := X.K) h
        exact ⟨_, _, rfl, h, q _ T (Grow.refl o) (.int _)⟩) hg (by decide) (by decide) he hpl
/-- the least of a list that isn't empty -/
def IsMin (ns : List Int) (m : Int) : Prop := m ∈ ns ∧ ∀ y, y ∈ ns → m ≤ y
def minI : List Int → Int
  | [] => 0
  | [n] => n
  | n :: r => min n (minI r)
theorem minI_is : ∀ {ns : List Int}, 0 < ns.length → IsMin ns (minI ns)
  | [], h => absurd h (by decide)
  | [n], _ => ⟨by simp [minI], fun y hy => by simp at hy; simp [minI, hy]⟩
  | n :: m :: r, _ => by
    have ih := minI_is (ns := m :: r) (by simp)
    obtain ⟨h1, h2⟩ := ih
    constructor
    · show min n (minI (m :: r)) ∈ _
      by_cases q : n ≤ minI (m :: r)
      · rw [Int.min_eq_left q]; exact List.mem_cons_self
      · rw [Int.min_eq_right (by omega)]; exact List.mem_cons_of_mem _ h1
    · intro y hy
      show min n (minI (m :: r)) ≤ y
      rcases List.mem_cons.mp hy with rfl | hy
      · exact Int.min_le_left _ _
      · have := h2 y hy
        omega
theorem IsMin.eq {ns : List Int} {m m' : Int} (h : IsMin ns m) (h' : IsMin ns m') : m = m' := by
  have h1 := h.2 _ h'.1
  have h2 := h'.2 _ h.1
  omega
theorem je_min (hm : X.mg "min" = none) (ha : JE X la e ρ (.il ns)) (h0 : 0 < ns.length) (hc : X.calm = true := by rfl) (hg : Gl X "min" := by rfl) (he : starEach [e] X.env = (false, eval e X.env) :: starEach [] X.env := by exact star_c rfl) (hpl : (backTo pos (starEach [] X.env)).any (·.1) = false := by exact back_ns rfl) :
    JE X .frs (.Call (.Name "min" p) [e] [] pos) ρ (.int (minI ns)) :=
  je_callB (cr_min hc) hm (by decide +kernel) (ja_cons ha ja_nil (Lv.le_full _) he) (fun T vs Q o r q => by
    cases r with
    | cons r1 r2 =>
      cases r2
      cases r1 with
      | il h =>
        have h := SqL.of (K := X.K) h
        exact ⟨_, _, rfl, h, h0, fun m h1 h2 => by
          have e : m = minI ns := IsMin.eq ⟨h1, h2⟩ (minI_is h0)
          rw [e]
          exact q _ T (Grow.refl o) (.int _)⟩) hg (by decide) (by decide) he hpl
theorem RpAll.of_bl {K : PySem.W.Frag} {H : Hp} : ∀ {vs : List V} {bs : List Bool}, RpAll K H vs (bs.map D.bl) → vs = bs.map V.bl
  | _, [], .nil => rfl
  | _, n :: r, .cons (.bl _) h => by rw [List.map_cons, RpAll.of_bl h]
theorem je_all {bs : List Bool} (hm : X.mg "all" = none) (ha : JE X la e ρ (.lst (bs.map D.bl))) (hc : X.calm = true := by rfl) (hg : Gl X "all" := by rfl) (he : starEach [e] X.env = (false, eval e X.env) :: starEach [] X.env := by exact star_c rfl) (hpl : (backTo pos (starEach [] X.env)).any (·.1) = false := by exact back_ns rfl) :
    JE X .frs (.Call (.Name "all" p) [e] [] pos) ρ (.bl (bs.all id)) :=
  je_callB (cr_all hc) hm (by decide +kernel) (ja_cons ha ja_nil (Lv.le_full _) he) (fun T vs Q o r q => by
    cases r with
    | cons r1 r2 =>
      cases r2
      cases r1 with
      | lst h rr =>
        have h := SqL.of (K := X.K) h
        have e := rr.of_bl
        subst e
        exact ⟨_, _, rfl, h, q _ T (Grow.refl o) (.bl _)⟩) hg (by decide) (by decide) he hpl
theorem je_any {bs : List Bool} (hm : X.mg "any" = none) (ha : JE X la e ρ (.lst (bs.map D.bl))) (hc : X.calm = true := by rfl) (hg : Gl X "any" := by rfl) (he : starEach [e] X.env = (false, eval e X.env) :: starEach [] X.env := by exact star_c rfl) (hpl : (backTo pos (starEach [] X.env)).any (·.1) = false := by exact back_ns rfl) :
    JE X .frs (.Call (.Name "any" p) [e] [] pos) ρ (.bl (bs.any id)) :=
  je_callB (cr_any hc) hm (by decide +kernel) (ja_cons ha ja_nil (Lv.le_full _) he) (fun T vs Q o r q => by
    cases r with
    | cons r1 r2 =>
      cases r2
      cases r1 with
      | lst h rr =>
        have h := SqL.of (K := X.K) h
        have e := rr.of_bl
        subst e
        exact ⟨_, _, rfl, h, q _ T (Grow.refl o) (.bl _)⟩) hg (by decide) (by decide) he hpl
/-- list(x): a new list -/
theorem joi_list (hm : X.mg "list" = none) (ha : JE X la e ρ (.il ns)) (hg : Gl X "list" := by rfl) (he : starEach [e] X.env = (false, eval e X.env) :: starEach [] X.env := by exact star_c rfl) (hpl : (backTo pos (starEach [] X.env)).any (·.1) = false := by exact back_ns rfl) :
    JOI X (.Call (.Name "list" p) [e] [] pos) ρ ns :=
  JOI.of (pe_callTy call_list_of hg hm (by decide +kernel) (pa_cons pe_w pa_nil he) (by decide) (by decide) he hpl) fun T σ Q F q => ha T σ _ F fun v T1 g1 r1 => by
    have r1' := r1.mono g1.ok.full
    cases r1' with
    | il h =>
      have h := SqL.of (K := X.K) h
      exact ⟨_, _, rfl, .inl h, fun p hp => q p (T1.put p _) (g1.trans (Grow.put g1.ok hp)) (Same.free g1.ex hp) (g1.ok.i_none hp) upd_same⟩
theorem jo_list (hm : X.mg "list" = none) (ha : JE X la e ρ (.lst ds)) (z : Lv.le la .imm = true := by rfl) (hg : Gl X "list" := by rfl) (he : starEach [e] X.env = (false, eval e X.env) :: starEach [] X.env := by exact star_c rfl) (hpl : (backTo pos (starEach [] X.env)).any (·.1) = false := by exact back_ns rfl) :
    JO X la (.Call (.Name "list" p) [e] [] pos) ρ ds :=
  JO.of (pe_callTy call_list_of hg hm (by decide +kernel) (pa_cons pe_w pa_nil he) (by decide) (by decide) he hpl) fun T σ Q F q => ha T σ _ F fun v T1 g1 r1 => by
    cases r1 with
    | lst h rr =>
      have h := SqL.of (K := X.K) h
      refine ⟨_, _, rfl, .inl (g1.ok.full.seq h), fun p hp => q p _ (T1.put p _) (g1.trans (Grow.put g1.ok hp)) (Same.free g1.ex hp) (g1.ok.i_none hp) upd_same ?_⟩
      cases la with
      | full => cases z
      | imm => exact rr
      | frs => exact rr
/-- xs.index(x): x is there -/
def ixOf (ns : List Int) (i : Int) : Nat := ns.findIdx (fun y => y == i)
theorem je_index {apos cpos : Pos} (ha : JE X la a ρ (.il ns)) (hb : JE X lb b ρ (.int i)) (hi : i ∈ ns) (hbm : ∀ (to : TE) (ta : TA), PE X a to → PA X [b] ta → PE X (.Call (.Attribute a "index" apos) [b] [] cpos) (tBM X.K "list" (rIndex X.K) to ta) := by
      exact fun to ta ho hx => pe_bm PySem.F.plainAttrs_list PySem.F.slot_list_index PySem.F.type_list_index mt_index ho hx)
    (he : starEach [b] X.env = (false, eval b X.env) :: starEach [] X.env := by exact star_c rfl) : JE X .frs (.Call (.Attribute a "index" apos) [b] [] cpos) ρ (.int (ixOf ns i)) :=
  JE.of (hbm _ _ pe_w (pa_cons pe_w pa_nil he)) fun T σ Q F q => ha T σ _ F fun v T1 g1 r1 => by
    have r1' := r1.mono g1.ok.full
    cases r1' with
    | il h =>
      have h := SqL.of (K := X.K) h
      refine ⟨?_, hb T1 σ _ (F.grow g1) fun u T2 g2 r2 => ?_⟩
      · exact .inl ⟨rfl, _, h⟩
      · cases r2
        have hlt : ixOf ns i < ns.length := List.findIdx_lt_length_of_exists ⟨i, hi, by simp⟩
        have hat : ns[ixOf ns i] = i := by
          have z : (ns[ixOf ns i] == i) = true := List.findIdx_getElem (p := fun y => y == i) (w := hlt)
          exact eq_of_beq z
        refine ⟨_, _, _, ixOf ns i, .int i, rfl, rfl, g2.ex.seq h, rfl, flat_ints ns, ?_, ?_, fun m z' hm hz => ?_, q _ T2 (g1.trans g2) (.int _)⟩
        · rw [List.getElem?_map, List.getElem?_eq_getElem hlt, hat]
          rfl
        · show (i == i) = true
          simp
        · rw [List.getElem?_map] at hz
          have hm' : m < ns.length := Nat.lt_trans hm hlt
          rw [List.getElem?_eq_getElem hm'] at hz
          cases hz
          show (ns[m] == i) = false
          have := List.not_of_lt_findIdx hm
          simpa using this

/-! ### isinstance -/
/-- a value's type, as isinstance asks for it -/
def tyOf (d : D) : Value := match d with
  | .non => .type "NoneType"
  | .bl _ => .type "bool"
  | .int _ => .type "int"
  | .str _ => .type "str"
  | .il _ => .type "list"
  | .scr _ => .type "list"
  | .lst _ => .type "list"
  | .tup _ => .type "tuple"
  | .obj C _ => .ref C
  | .ptr _ => .none
/-- what isinstance asks of an own class -/
structure ClsI (K : PySem.W.Frag) (C : Addr) : Prop where
  cl : Cls K C
  ha : PySem.W.findIn K (.ref C) "__class__" = some (some (.builtin "object.__class__"))
  hn : PySem.W.specialIn K (.builtin "object.__class__") "__get__" = some (some (.builtin "getset_descriptor.__get__"))
  htk : PySem.W.takesIn K (.builtin "object.__class__") = some true
  hm : PySem.W.mroIn K C (.type "object") = some true
theorem sqL_ty {K : PySem.W.Frag} {H : Hp} {a : Addr} {xs : List V} (h : SqL K H a xs) : TyX K H (.ref a) (.type "list") := by
  rcases h with (h | ⟨o, h⟩) | ⟨o, its, n, h, hc, _⟩
  · exact .base (.lst h)
  · exact .base (.frz h)
  · exact .kList h hc
theorem sqT_ty {K : PySem.W.Frag} {H : Hp} {a : Addr} {xs : List V} (h : SqT K H a xs) : TyX K H (.ref a) (.type "tuple") := by
  rcases h with (h | ⟨o, h⟩) | ⟨o, its, n, h, hc, _⟩
  · exact .base (.tup h)
  · exact .fTuple h
  · exact .kTuple h hc
def clsOk (K : PySem.W.Frag) : D → Prop
  | .obj C _ => ClsI K C
  | .ptr _ => False
  | _ => True
theorem Rp.tyx {K : PySem.W.Frag} {H : Hp} {v : V} {d : D} (h : Rp K H v d) (o : clsOk K d) : TyX K H v (tyOf d) := by
  cases h with
  | non => exact .base .non
  | bl b => exact .base (.bl b)
  | int i => exact .base (.int i)
  | str x => exact .base (.str x)
  | il h => exact .base (.lst h)
  | scr h => exact sqL_ty h
  | lst h _ => exact .base (.lst h)
  | tup h _ => exact .base (.tup h)
  | obj h _ => exact .base (.ins h o.cl o.ha o.hn o.htk o.hm)
  | ptr b => exact o.elim
/-- isinstance(e, T), T a built-in class -/
theorem je_isT {T : Str} {n : String} {b : Bool} {pt : Pos} (hm : X.mg "isinstance" = none) (hmT : X.mg T = none) (hT : bootBuiltins T = some (.type n)) (ha : JE X la e ρ d) (hk : PySem.W.kitOne X.K (tyOf d) (.type n) = some b) (ho : clsOk X.K d)
    (hg : Gl X "isinstance" := by rfl) (hgT : Gl X T := by rfl) (hn : T ≠ "__name__" := by decide) (hdb : (T == ("__debug__" : Str)) = false := by decide)
    (h1 : starEach [e, .Name T pt] X.env = (false, eval e X.env) :: starEach [.Name T pt] X.env := by exact star_c rfl) (h2 : starEach [.Name T pt] X.env = (false, eval (.Name T pt) X.env) :: starEach [] X.env := by exact star_c rfl)
    (hpl : (backTo pos (starEach [.Name T pt] X.env)).any (·.1) = false := by exact back_ns rfl) : JE X .frs (.Call (.Name "isinstance" p) [e, .Name T pt] [] pos) ρ (.bl b) :=
  JE.of (pe_callB call_isi hg hm (by decide +kernel) (pa_cons pe_w (pa_cons (pe_bltn (v := .ty n) hgT hmT hT rfl hn hdb) pa_nil h2) h1) (by decide) (by decide) h1 hpl) fun T σ Q F q => ha T σ _ F fun v T1 g1 r1 =>
    ⟨v, .ty n, tyOf d, _, b, rfl, .ty n, (r1.mono g1.ok.full).tyx ho, hk, q _ T1 g1 (.bl b)⟩
/-- isinstance(e, C), C an own class -/
theorem je_isC {T : Str} {C : Addr} {b : Bool} {pt : Pos} (hm : X.mg "isinstance" = none) (hmT : X.mg T = some (.ref C)) (ha : JE X la e ρ d) (hk : PySem.W.kitOne X.K (tyOf d) (.ref C) = some b) (ho : clsOk X.K d)
    (hg : Gl X "isinstance" := by rfl) (hgT : Gl X T := by rfl) (hdb : (T == ("__debug__" : Str)) = false := by decide)
    (h1 : starEach [e, .Name T pt] X.env = (false, eval e X.env) :: starEach [.Name T pt] X.env := by exact star_c rfl) (h2 : starEach [.Name T pt] X.env = (false, eval (.Name T pt) X.env) :: starEach [] X.env := by exact star_c rfl)
    (hpl : (backTo pos (starEach [.Name T pt] X.env)).any (·.1) = false := by exact back_ns rfl) : JE X .frs (.Call (.Name "isinstance" p) [e, .Name T pt] [] pos) ρ (.bl b) :=
  JE.of (pe_callB call_isi hg hm (by decide +kernel) (pa_cons pe_w (pa_cons (pe_glob (v := .ref C) hgT hmT rfl hdb) pa_nil h2) h1) (by decide) (by decide) h1 hpl) fun T σ Q F q => ha T σ _ F fun v T1 g1 r1 =>
    ⟨v, .ref C, tyOf d, _, b, rfl, .own C, (r1.mono g1.ok.full).tyx ho, hk, q _ T1 g1 (.bl b)⟩

/-! ### fields -/
theorem je_fld {C : Addr} {f : Str} {gs : List (Str × D)} (ha : JE X l e ρ (.obj C gs)) (hc : Cls X.K C) (hn : NoAttr X.K C f) (hf : gs.lookup f = some d) (hb : attributeBase e f X.env (eval e X.env) = eval e X.env := by rfl) : JE X l (.Attribute e f pos) ρ d :=
  JE.of (pe_fld pe_w hb) fun T σ Q F q => ha T σ _ F fun v T1 g1 r1 => by
    cases r1 with
    | obj h rr =>
      obtain ⟨w, h1, h2⟩ := rr.look hf
      exact ⟨_, C, _, _, w, rfl, g1.ok.full _ _ h, hc, hn, h1, q w T1 g1 h2⟩

/-! ### calls of defs -/
/-- the promise of a def: what it makes is new -/
def spF (K : PySem.W.Frag) (pre : List D → Prop) (G : List D → D) : Sp := fun vs H Q _ => ∃ ds, RpAll K H vs ds ∧ pre ds ∧ ∀ v H' Hn, Same H H' → Same Hn H' → (∀ a, Hn a ≠ none → H a = none) → Rp K Hn v (G ds) → Q v H'
def uni (A B : Hp) : Hp := fun a => match A a with | some o => some o | none => B a
theorem uni_l {A B : Hp} : Same A (uni A B) := fun a o h => by unfold uni; rw [h]
theorem uni_r {A B : Hp} (d : ∀ a, B a ≠ none → A a = none) : Same B (uni A B) := fun a o h => by
  unfold uni
  rw [d a (by rw [h]; intro z; cases z)]
  exact h
theorem uni_to {A B C : Hp} (h1 : Same A C) (h2 : Same B C) : Same (uni A B) C := fun a o h => by
  unfold uni at h
  cases e : A a with
  | none => rw [e] at h; exact h2 a o h
  | some u => rw [e] at h; cases h; exact h1 a _ e
theorem uni_mono {A A' B : Hp} (h : Same A A') (d : ∀ a, B a ≠ none → A' a = none) : Same (uni A B) (uni A' B) := uni_to (h.trans uni_l) (uni_r d)
theorem Grow.called {T : W3} (o : Ok T) {H' Hn : Hp} (h1 : Same T.h H') (h2 : Same Hn H') (dj : ∀ a, Hn a ≠ none → T.h a = none) : Grow T ⟨uni T.i Hn, uni T.n Hn, H'⟩ := by
  have di : ∀ a, Hn a ≠ none → T.i a = none := fun a h => o.i_none (dj a h)
  have fresh : ∀ {A : Hp} (a : Addr), A a = none → T.h a ≠ none → uni A Hn a = none := fun {A} a q r => by
    unfold uni
    rw [q]
    cases e : Hn a with
    | none => rfl
    | some u => exact absurd (dj a (by rw [e]; intro z; cases z)) r
  exact ⟨⟨uni_mono o.ni di, uni_to (o.ih.trans h1) h2⟩, h1, uni_l, uni_l, fun a q r => fresh a q r, fun a q r => fresh a q r⟩
structure Callee (P : Program) (w : World) (K : PySem.W.Frag) (mg : Str → Option Value) (base : Heap) (k : Nat) (x : Str) (pre : List D → Prop) (G : List D → D) : Prop where
  ex : ∃ (f : Addr) (fd : FuncData) (ps : List Str), FnOk P w K mg base CX0 k f fd ps (spF K pre G) ∧ mg x = some (.ref f) ∧ PySem.W.keepIn K (.ref f) = true ∧ Binds K fd ps []
theorem je_call {m n : Nat} {pre : List D → Prop} {G : List D → D} (C : Callee X.prog X.w X.K X.mg X.base m x pre G) (hr : Room n X.A) (ha : JA X .full (e :: es) ρ ds) (hp : pre ds) (hq : G ds = d := by rfl) (hk : m ≤ n := by decide) (hg : Gl X x := by rfl) (hdb : (x == ("__debug__" : Str)) = false := by decide)
    (he : starEach (e :: es) X.env = (false, eval e X.env) :: starEach es X.env := by exact star_c rfl) (hpl : (backTo pos (starEach es X.env)).any (·.1) = false := by exact back_ns rfl) : JE X .frs (.Call (.Name x p) (e :: es) [] pos) ρ d := by
  subst hq
  obtain ⟨f, fd, ps, F, hm, hkp, hb⟩ := C.ex
  exact JE.of (pe_call F (hr.mono hk) hg hm hkp hb .nil pass0 pa_w hdb he hpl) fun T σ Q Fm q => ha T σ _ Fm fun vs T1 g1 r1 =>
    ⟨ds, by rw [List.append_nil]; exact r1, hp, fun v H' Hn h1 h2 dj rv => q v ⟨uni T1.i Hn, uni T1.n Hn, H'⟩ (g1.trans (Grow.called g1.ok h1 h2 dj)) (rv.mono (uni_r fun a h => g1.ok.n_none (dj a h)))⟩
/-- a method -/
structure CalleeM (P : Program) (w : World) (K : PySem.W.Frag) (mg : Str → Option Value) (base : Heap) (k : Nat) (C : Addr) (x : Str) (pre : List D → Prop) (G : List D → D) : Prop where
  cl : Cls K C
  ex : ∃ (f : Addr) (fd : FuncData) (ps : List Str), FnOk P w K mg base CX0 k f fd ps (spF K pre G) ∧ Meth K C x f ∧ Binds K fd ps []
theorem je_meth {m n : Nat} {C : Addr} {apos : Pos} {gs : List (Str × D)} {pre : List D → Prop} {G : List D → D} (M : CalleeM X.prog X.w X.K X.mg X.base m C x pre G) (hr : Room n X.A) (ho : JE X la a ρ (.obj C gs)) (hno : gs.lookup x = none) (ha : JA X .full (e :: es) ρ ds) (hp : pre (.obj C gs :: ds)) (hq : G (.obj C gs :: ds) = d := by rfl) (hk : m ≤ n := by decide)
    (hpe : ∀ {f : Addr} {fd : FuncData} {ps : List Str} {to : TE} {ta : TA}, FnOk X.prog X.w X.K X.mg X.base CX0 m f fd ps (spF X.K pre G) → Meth X.K C x f → Binds X.K fd ps [] → Cls X.K C → Room m X.A → PE X a to → PA X (e :: es) ta → PE X (.Call (.Attribute a x apos) (e :: es) [] pos) (tMeth C x (spF X.K pre G) [] E0 to ta) := by
      exact fun F M B c r h1 h2 => pe_meth h1 c M F r B .nil pass0 h2) : JE X .frs (.Call (.Attribute a x apos) (e :: es) [] pos) ρ d := by
  subst hq
  obtain ⟨f, fd, ps, F, hm, hb⟩ := M.ex
  exact JE.of (hpe F hm hb M.cl (hr.mono hk) pe_w pa_w) fun T σ Q Fm q => ho T σ _ Fm fun v T0 g0 r0 => by
    have r0' := r0.mono g0.ok.full
    cases r0' with
    | @obj a C' dx fs _ h rr =>
      refine ⟨_, _, _, rfl, h, rr.no hno, ha T0 σ _ (Fm.grow g0) fun vs T1 g1 r1 => ?_⟩
      have g := g0.trans g1
      exact ⟨.obj C gs :: ds, .cons ((Rp.obj h rr).mono g1.ex) (by rw [List.append_nil]; exact r1), hp, fun v H' Hn h1 h2 dj rv => q v ⟨uni T1.i Hn, uni T1.n Hn, H'⟩ (g.trans (Grow.called g1.ok h1 h2 dj)) (rv.mono (uni_r fun a h => g1.ok.n_none (dj a h)))⟩
/-- a class made by its __init__ -/
def spI (K : PySem.W.Frag) (C : Addr) (pre : List D → Prop) (G : List D → List (Str × D)) : Sp := fun vs H Q _ => ∃ (x dx : Addr) (us : List V) (ds : List D), vs = .ref x :: us ∧ H x = some (.ins C dx []) ∧ RpAll K H us ds ∧ pre ds ∧
  ∀ fs H' Hn, (∀ b o, H b = some o → b ≠ x → H' b = some o) → H' x = some (.ins C dx fs) → Same Hn H' → (∀ a, Hn a ≠ none → H a = none) → RpF K Hn fs (G ds) → Q .non H'
structure Maker (P : Program) (w : World) (K : PySem.W.Frag) (mg : Str → Option Value) (base : Heap) (k : Nat) (x : Str) (C : Addr) (pre : List D → Prop) (G : List D → List (Str × D)) : Prop where
  mgC : mg x = some (.ref C)
  ex : ∃ (f : Addr) (fd : FuncData) (ps : List Str), FnOk P w K mg base CX0 k f fd ps (spI K C pre G) ∧ Mk K C f ∧ Binds K fd ps []
theorem je_make {m n : Nat} {C : Addr} {gs : List (Str × D)} {pre : List D → Prop} {G : List D → List (Str × D)} (M : Maker X.prog X.w X.K X.mg X.base m x C pre G) (hr : Room n X.A) (ha : JA X .full (e :: es) ρ ds) (hp : pre ds) (hq : G ds = gs := by rfl) (hk : m + 1 ≤ n := by decide) (hg : Gl X x := by rfl) (hdb : (x == ("__debug__" : Str)) = false := by decide)
    (he : starEach (e :: es) X.env = (false, eval e X.env) :: starEach es X.env := by exact star_c rfl) (hpl : (backTo pos (starEach es X.env)).any (·.1) = false := by exact back_ns rfl) : JE X .frs (.Call (.Name x p) (e :: es) [] pos) ρ (.obj C gs) := by
  subst hq
  obtain ⟨f, fd, ps, F, mk, hb⟩ := M.ex
  refine JE.of (pe_make mk F (hr.mono hk) hg M.mgC hb .nil pass0 pa_w hdb he hpl) fun T σ Q Fm q => ha T σ _ Fm fun vs T1 g1 r1 => ?_
  intro y dx ny nd ne
  have s1 : Same T1.h (upd (upd T1.h dx (.own y)) y (.ins C dx [])) := (same_new nd).trans (same_new (by rw [upd_ne ne.symm]; exact ny))
  refine ⟨y, dx, vs, ds, by rw [List.append_nil], upd_same, r1.mono s1, hp, fun fs H' Hn h1 h2 h3 dj rf => ⟨rfl, ?_⟩⟩
  have s2 : Same T1.h H' := Same.made ny nd h1
  have hny : Hn y = none := by
    cases e : Hn y with
    | none => rfl
    | some u =>
      have := dj y (by rw [e]; intro z; cases z)
      rw [upd_same] at this
      cases this
  have dj' : ∀ a, upd Hn y (.ins C dx fs) a ≠ none → T1.h a = none := fun a h => by
    by_cases z : a = y
    · rw [z]; exact ny
    · rw [upd_ne z] at h
      exact Same.free s1 (dj a h)
  exact q (.ref y) ⟨uni T1.i (upd Hn y (.ins C dx fs)), uni T1.n (upd Hn y (.ins C dx fs)), H'⟩ (g1.trans (Grow.called g1.ok s2 (same_up h3 h2) dj'))
    ((Rp.obj upd_same (rf.mono (same_new hny))).mono (uni_r fun a h => g1.ok.n_none (dj' a h)))
end
end Lf

set_option Elab.async false
set_option linter.all false
set_option maxRecDepth 100000
set_option maxHeartbeats 2000000
set_option autoImplicit false
namespace Lf
open PySem L2
section
variable {X : Cx} {e a b c : Expr} {es : List Expr} {ρ ρ1 : PEnv} {d d1 d2 d3 : D} {l la lb lc : Lv} {pos p p2 : Pos} {i j k : Int} {ns ms : List Int} {ds fs : List D} {kt : Nat} {x y z : Str} {st : Stmt} {sts : List Stmt} {P : PEnds}

/-! ### blocks -/
theorem jss_nil (h : P.nx ρ) : JSs X [] P ρ := JSs.of pss_nil fun T σ D F m => m.nx ρ σ T (Gw.refl F.ok) F h
theorem jss_cons (h : JS X st { P with nx := fun ρ' => JSs X sts P ρ' } ρ) : JSs X (st :: sts) P ρ :=
  JSs.of (pss_cons ps_w pss_w) fun T σ D F m => h T σ _ F ⟨fun ρ' σ' T' g F' j => j T' σ' D F' (m.gw g), m.rt, m.bk, m.ct, m.ru, m.rf⟩
theorem jss_one (h : JS X st P ρ) : JSs X [st] P ρ := JSs.of (pss_one ps_w) fun T σ D F m => h T σ _ F m
theorem js_doc {x : Str} {j : Nat} {p' : Pos} (h : P.nx ρ) : JS X (.Expr (.Constant (.str x) j p) p') P ρ := JS.of ps_doc fun T σ D F m => m.nx ρ σ T (Gw.refl F.ok) F h
theorem js_pass (h : P.nx ρ) : JS X (.Pass pos) P ρ := JS.of ps_pass fun T σ D F m => m.nx ρ σ T (Gw.refl F.ok) F h
theorem js_break (h : P.bk ρ) : JS X (.Break pos) P ρ := JS.of ps_break fun T σ D F m => m.bk ρ σ T (Gw.refl F.ok) F h
theorem js_continue (h : P.ct ρ) : JS X (.Continue pos) P ρ := JS.of ps_continue fun T σ D F m => m.ct ρ σ T (Gw.refl F.ok) F h
theorem js_expr (he : JE X l e ρ d) (h : P.nx ρ) (hs : swapsWith e none pos.line X.env = pure false := by exact sw_ns rfl) : JS X (.Expr e pos) P ρ :=
  JS.of (ps_expr pe_w hs) fun T σ D F m => he T σ _ F fun v T' g r => m.nx ρ σ T' g.w (F.grow g) h
theorem js_ret (he : JE X .frs e ρ d) (h : P.rt d) : JS X (.Return (some e) pos) P ρ :=
  JS.of (ps_ret pe_w) fun T σ D F m => he T σ _ F fun v T' g r => m.rt d v T' g.w h r
theorem js_retF (he : JE X .frs e ρ d) (h : P.rf ρ d) : JS X (.Return (some e) pos) P ρ :=
  JS.of (ps_ret pe_w) fun T σ D F m => he T σ _ F fun v T' g r => m.rf ρ σ d v T' g.w (F.grow g) h r
theorem js_retN (h : P.rt .non) : JS X (.Return none pos) P ρ := JS.of ps_retN fun T σ D F m => m.rt .non .non T (Gw.refl F.ok) h .non
theorem js_if {v : Bool} {s1 s2 : List Stmt} (hc : JT X c ρ v) (h1 : v = true → JSs X s1 P ρ) (h2 : v = false → JSs X s2 P ρ) : JS X (.If c s1 s2 pos) P ρ :=
  JS.of (ps_if pt_w pss_w pss_w) fun T σ D F m => hc T σ _ F fun T1 g1 => by
    cases v with
    | true => exact iteT (h1 rfl T1 σ D (F.grow g1) (m.gw g1.w))
    | false => exact iteF (h2 rfl T1 σ D (F.grow g1) (m.gw g1.w))
/-- the ends may be met otherwise -/
theorem JSs.imp {P' : PEnds} (h : JSs X sts P ρ) (hn : ∀ ρ', P.nx ρ' → P'.nx ρ') (hr : ∀ d, P.rt d → P'.rt d) (hb : ∀ ρ', P.bk ρ' → P'.bk ρ') (hc : ∀ ρ', P.ct ρ' → P'.ct ρ') (hu : ∀ d, P.ru d → P'.ru d) (hf : ∀ ρ d, P.rf ρ d → P'.rf ρ d) : JSs X sts P' ρ :=
  fun T σ D F m => h T σ D F ⟨fun ρ' σ' T' g F' q => m.nx ρ' σ' T' g F' (hn ρ' q), fun d v T' g q => m.rt d v T' g (hr d q), fun ρ' σ' T' g F' q => m.bk ρ' σ' T' g F' (hb ρ' q), fun ρ' σ' T' g F' q => m.ct ρ' σ' T' g F' (hc ρ' q), fun t v T' g q => m.ru t v T' g (hu _ q), fun ρ σ d v T' g F' q => m.rf ρ σ d v T' g F' (hf ρ d q)⟩
theorem JS.imp {P' : PEnds} (h : JS X st P ρ) (hn : ∀ ρ', P.nx ρ' → P'.nx ρ') (hr : ∀ d, P.rt d → P'.rt d) (hb : ∀ ρ', P.bk ρ' → P'.bk ρ') (hc : ∀ ρ', P.ct ρ' → P'.ct ρ') (hu : ∀ d, P.ru d → P'.ru d) (hf : ∀ ρ d, P.rf ρ d → P'.rf ρ d) : JS X st P' ρ :=
  fun T σ D F m => h T σ D F ⟨fun ρ' σ' T' g F' q => m.nx ρ' σ' T' g F' (hn ρ' q), fun d v T' g q => m.rt d v T' g (hr d q), fun ρ' σ' T' g F' q => m.bk ρ' σ' T' g F' (hb ρ' q), fun ρ' σ' T' g F' q => m.ct ρ' σ' T' g F' (hc ρ' q), fun t v T' g q => m.ru t v T' g (hu _ q), fun ρ σ d v T' g F' q => m.rf ρ σ d v T' g F' (hf ρ d q)⟩
/-- several ways meet -/
theorem js_cut (M : PEnv → Prop) (h : JS X st { P with nx := M } ρ) (hn : ∀ ρ', M ρ' → P.nx ρ') : JS X st P ρ := h.imp hn (fun _ q => q) (fun _ q => q) (fun _ q => q) (fun _ q => q) (fun _ _ q => q)
/-- an own list is kept as it is from now on -/
theorem jss_keepI (m : Nat) (hr : ρ[m]? = some (some (.ownI ns))) (h : JSs X sts P (ρ.set m (some (.v .frs (.il ns))))) : JSs X sts P ρ := fun T σ D F k => by
  obtain ⟨v, h1, a, rfl, h2, h3⟩ := F.val m _ hr
  obtain ⟨g, F'⟩ := F.keepO (d := .il ns) hr rfl h1 h2 h3 (.il upd_same)
  exact h (T.fix a _) σ D F' (k.gw g)
theorem jss_keepO (m : Nat) (hr : ρ[m]? = some (some (.own .frs ds))) (h : JSs X sts P (ρ.set m (some (.v .frs (.lst ds))))) : JSs X sts P ρ := fun T σ D F k => by
  obtain ⟨v, h1, _, a, vs, rfl, h2, h3, rr⟩ := F.val m _ hr
  obtain ⟨g, F'⟩ := F.keepO (d := .lst ds) hr rfl h1 h2 h3 (.lst upd_same (rr.mono (same_new (F.ok.n_none' h3))))
  exact h (T.fix a _) σ D F' (k.gw g)
/-- some names are forgotten -/
theorem JSs.forget (h : JSs X sts P ρ1) (hl : ρ1.length = ρ.length) (hh : ∀ (i : Nat) (e : E), ρ1[i]? = some (some e) → ρ[i]? = some (some e)) : JSs X sts P ρ := fun T σ D F m => h T σ D (F.forget hl hh) m

/-! ### names are bound -/
theorem js_set (n : Nat) {p' : Pos} (he : JE X l e ρ d) (h : P.nx (ρ.set n (some (.v l d)))) (hl : l ≠ .full := by decide) (hN : X.N.Nodup) (hi : X.N[n]? = some x := by rfl) (hx : Loc X.env.scope x := by first | exact Or.inl rfl | exact Or.inr rfl)
    (hs : swapsWith e (some (.Name x p')) pos.line X.env = pure false := by exact sw_ns rfl) (hf : X.fn x = true ∨ X.env.scope.names.lookup x = some .local := by exact Or.inl rfl) : JS X (.Assign [.Name x p'] e pos) P ρ :=
  JS.of (ps_set (i := n) hN hi hx pe_w hs hf) fun T σ D F m => he T σ _ F fun v T' g r => m.nx _ _ T' g.w ((F.grow g).set hl r) h
theorem js_setOI (n : Nat) {p' : Pos} (he : JOI X e ρ ns) (h : P.nx (ρ.set n (some (.ownI ns)))) (hN : X.N.Nodup) (hi : X.N[n]? = some x := by rfl) (hx : Loc X.env.scope x := by first | exact Or.inl rfl | exact Or.inr rfl)
    (hs : swapsWith e (some (.Name x p')) pos.line X.env = pure false := by exact sw_ns rfl) (hf : X.fn x = true ∨ X.env.scope.names.lookup x = some .local := by exact Or.inl rfl) : JS X (.Assign [.Name x p'] e pos) P ρ :=
  JS.of (ps_set (i := n) hN hi hx pe_w hs hf) fun T σ D F m => he T σ _ F fun a T' g h0 h1 h2 => m.nx _ _ T' g.w ((F.grow g).setOwn (e := .ownI ns) ⟨a, rfl, h2, h1⟩ (F.fresh h0)) h
theorem js_setO (n : Nat) {p' : Pos} (he : JO X l e ρ ds) (h : P.nx (ρ.set n (some (.own l ds)))) (hl : l ≠ .full := by decide) (hN : X.N.Nodup) (hi : X.N[n]? = some x := by rfl) (hx : Loc X.env.scope x := by first | exact Or.inl rfl | exact Or.inr rfl)
    (hs : swapsWith e (some (.Name x p')) pos.line X.env = pure false := by exact sw_ns rfl) (hf : X.fn x = true ∨ X.env.scope.names.lookup x = some .local := by exact Or.inl rfl) : JS X (.Assign [.Name x p'] e pos) P ρ :=
  JS.of (ps_set (i := n) hN hi hx pe_w hs hf) fun T σ D F m => he T σ _ F fun a vs T' g h0 h1 h2 r => m.nx _ _ T' g.w ((F.grow g).setOwn (e := .own l ds) ⟨hl, a, vs, rfl, h2, h1, r⟩ (F.fresh h0)) h
/-- x += e, of ints -/
theorem js_augA (n : Nat) {p' : Pos} (hr : ρ[n]? = some (some (.v la (.int i)))) (he : JE X l e ρ (.int j)) (h : P.nx (ρ.set n (some (.v .frs (.int (i + j)))))) (hN : X.N.Nodup) (hi : X.N[n]? = some x := by rfl) (hx : Loc X.env.scope x := by first | exact Or.inl rfl | exact Or.inr rfl)
    (hf : X.fn x = true ∨ X.env.scope.names.lookup x = some .local := by exact Or.inl rfl) : JS X (.AugAssign (.Name x p') .Add e pos) P ρ :=
  JS.of (ps_aug (i := n) hN hi hx pe_w ip_add hf) fun T σ D F m => by
    obtain ⟨v, h1, h2⟩ := F.val n _ hr
    obtain ⟨_, r⟩ := h2
    cases r
    refine ⟨_, h1, he T σ _ F fun v T' g r => ?_⟩
    cases r
    exact ⟨i, j, rfl, rfl, m.nx _ _ T' g.w ((F.grow g).set (by decide) (.int _)) h⟩
theorem js_augS (n : Nat) {p' : Pos} (hr : ρ[n]? = some (some (.v la (.int i)))) (he : JE X l e ρ (.int j)) (h : P.nx (ρ.set n (some (.v .frs (.int (i - j)))))) (hN : X.N.Nodup) (hi : X.N[n]? = some x := by rfl) (hx : Loc X.env.scope x := by first | exact Or.inl rfl | exact Or.inr rfl)
    (hf : X.fn x = true ∨ X.env.scope.names.lookup x = some .local := by exact Or.inl rfl) : JS X (.AugAssign (.Name x p') .Sub e pos) P ρ :=
  JS.of (ps_aug (i := n) hN hi hx pe_w ip_sub hf) fun T σ D F m => by
    obtain ⟨v, h1, h2⟩ := F.val n _ hr
    obtain ⟨_, r⟩ := h2
    cases r
    refine ⟨_, h1, he T σ _ F fun v T' g r => ?_⟩
    cases r
    exact ⟨i, j, rfl, rfl, m.nx _ _ T' g.w ((F.grow g).set (by decide) (.int _)) h⟩
/-- x, y = e1, e2 -/
theorem js_par (n m : Nat) {px py pt pt2 : Pos} {k1 k2 : Nat} (ha : JA X l [a, b] ρ [d1, d2]) (h : P.nx ((ρ.set n (some (.v l d1))).set m (some (.v l d2)))) (hl : l ≠ .full := by decide) (hN : X.N.Nodup) (hnm : n ≠ m := by decide) (hi : X.N[n]? = some x := by rfl) (hj : X.N[m]? = some y := by rfl)
    (hx : X.env.scope.names.lookup x = some .local := by rfl) (hy : X.env.scope.names.lookup y = some .local := by rfl) (hc : X.calm = true := by rfl)
    (hw : swappedStores [.Tuple [.Name x px, .Name y py] k1 pt] (.Tuple [a, b] k2 pt2) X.env = pure (some [x, y]) := by rfl)
    (hs : swapsWithSole [.Tuple [.Name x px, .Name y py] k1 pt] (.Tuple [a, b] k2 pt2) pos.line X.env = pure false := by exact sws_ns rfl) : JS X (.Assign [.Tuple [.Name x px, .Name y py] k1 pt] (.Tuple [a, b] k2 pt2) pos) P ρ :=
  JS.of (ps_par (i := n) (j := m) hc hN hi hj hnm hx hy pa_w hw hs) fun T σ D F mm => ha T σ _ F fun vs T' g r => by
    cases r with
    | cons r1 r2 =>
      cases r2 with
      | cons r2 r3 =>
        cases r3
        exact ⟨_, _, rfl, mm.nx _ _ T' g.w (((F.grow g).set hl r1).set hl r2) h⟩
/-! ### targets -/
def wG (X : Cx) (tg : Expr) : TG := fun v σ H Q => ∀ pins s u, Inv X pins σ H s → RelV v u → wpAny (model X.prog X.w) X.A (assign tg X.env u) (fun _ s' => ∃ σ' H', Inv X pins σ' H' s' ∧ Q σ' H') X.xe s
theorem pg_w {tg : Expr} : PG X tg (wG X tg) := ⟨fun pins s σ H v u Q I r h => h pins s u I r⟩
/-- a value d, held at l, is bound to the target -/
def JG (X : Cx) (tg : Expr) (l : Lv) (d : D) (ρ ρ' : PEnv) : Prop :=
  ∀ (T : W3) (σ : L2.St) (v : V) (Q : L2.St → Hp → Prop), Fr X.K T σ ρ → Rp X.K (T.at l) v d → (∀ σ', Fr X.K T σ' ρ' → Q σ' T.h) → wG X tg v σ T.h Q
theorem jg_name (n : Nat) (hN : X.N.Nodup) (hl : l ≠ .full := by decide) (hi : X.N[n]? = some x := by rfl) (hx : Loc X.env.scope x := by first | exact Or.inl rfl | exact Or.inr rfl) (hf : X.fn x = true ∨ X.env.scope.names.lookup x = some .local := by exact Or.inl rfl) :
    JG X (.Name x p) l d ρ (ρ.set n (some (.v l d))) := fun T σ v Q F r q pins s u I rv => (pg_name (i := n) hN hi hx hf).run pins s σ T.h v u Q I rv (q _ (F.set hl r))
theorem jg_pair (n m : Nat) {px py : Pos} {k1 : Nat} (hN : X.N.Nodup) (hl : l ≠ .full := by decide) (hi : X.N[n]? = some x := by rfl) (hj : X.N[m]? = some y := by rfl) (hx : Loc X.env.scope x := by first | exact Or.inl rfl | exact Or.inr rfl) (hy : Loc X.env.scope y := by first | exact Or.inl rfl | exact Or.inr rfl)
    (hf : X.fn x = true ∨ X.env.scope.names.lookup x = some .local := by exact Or.inl rfl) (hf2 : X.fn y = true ∨ X.env.scope.names.lookup y = some .local := by exact Or.inl rfl) (hc : X.calm = true := by rfl)
    (hs1 : (assignEach [.Name x px, .Name y py] X.env).map (·.2) = assign (.Name x px) X.env :: (assignEach [.Name y py] X.env).map (·.2) := by rfl) (hs2 : (assignEach [.Name y py] X.env).map (·.2) = assign (.Name y py) X.env :: (assignEach [] X.env).map (·.2) := by rfl)
    (hn : (assignEach [.Name x px, .Name y py] X.env).length = 2 := by rfl) (hst : (assignEach [.Name x px, .Name y py] X.env).findIdx? (·.1) = none := by rfl) :
    JG X (.Tuple [.Name x px, .Name y py] k1 p) l (.tup [d1, d2]) ρ ((ρ.set n (some (.v l d1))).set m (some (.v l d2))) := fun T σ v Q F r q pins s u I rv => by
  cases r with
  | tup h rr =>
    have h := SqT.of (K := X.K) h
    cases rr with
    | cons r1 rr =>
      cases rr with
      | cons r2 rr =>
        cases rr
        exact (pg_tup hc (pgs_cons (pg_name (i := n) hN hi hx hf) (pgs_cons (pg_name (i := m) hN hj hy hf2) pgs_nil hs2) hs1) hn hst).run pins s σ T.h _ u Q I rv
          ⟨_, _, rfl, seqT F.ok.full h, rfl, _, _, rfl, _, _, rfl, rfl, q _ ((F.set hl r1).set hl r2)⟩
/-- a target takes a value -/
theorem js_asg {tg : Expr} (he : JE X l e ρ d) (hg : JG X tg l d ρ ρ1) (h : P.nx ρ1) (hs : swapsWithSole [tg] e pos.line X.env = pure false := by exact sws_ns rfl) (hw : swappedStores [tg] e X.env = pure none := by first | exact ss_tup rfl | rfl)
    (h1 : (assignEach [tg] X.env).map (·.2) = [assign tg X.env] := by rfl) : JS X (.Assign [tg] e pos) P ρ :=
  JS.of (ps_asg pe_w pg_w hs hw h1) fun T σ D F m => he T σ _ F fun v T' g r => hg T' σ v _ (F.grow g) r fun σ' F' => m.nx _ _ T' g.w F' h

/-! ### own lists change -/
theorem js_appI (n : Nat) {apos cpos : Pos} (hr : ρ[n]? = some (some (.ownI ns))) (he : JE X l e ρ (.int i)) (h : P.nx (ρ.set n (some (.ownI (ns ++ [i]))))) (hz : ns.length < 100000) (hN : X.N[n]? = some x := by rfl)
    (hv : Vis X.env.scope x := by first | exact Or.inl rfl | exact Or.inr (Or.inl rfl) | exact Or.inr (Or.inr rfl)) (hd : (x == ("__debug__" : Str)) = false := by decide) (hcd : (x == ("__classdict__" : Str)) = false := by decide)
    (hbm : ∀ (to : TE) (ta : TA), PE X (.Name x p) to → PA X [e] ta → PE X (.Call (.Attribute (.Name x p) "append" apos) [e] [] cpos) (tBM X.K "list" rAppend to ta) := by
      exact fun to ta ho hx => pe_bm PySem.F.plainAttrs_list PySem.F.slot_list_append PySem.F.type_list_append mt_append ho hx)
    (hst : starEach [e] X.env = (false, eval e X.env) :: starEach [] X.env := by exact star_c rfl) (hs : swapsWith (.Call (.Attribute (.Name x p) "append" apos) [e] [] cpos) none pos.line X.env = pure false := by exact sw_ns rfl) :
    JS X (.Expr (.Call (.Attribute (.Name x p) "append" apos) [e] [] cpos) pos) P ρ :=
  JS.of (ps_expr (hbm _ _ (pe_var hN hv hd hcd) (pa_cons pe_w pa_nil hst)) hs) fun T σ D F m => by
    obtain ⟨v, h1, a, rfl, h2, h3⟩ := F.val n _ hr
    refine ⟨_, h1, .inl ⟨rfl, _, SqL.of h2⟩, he T σ _ F fun w T1 g1 r1 => ?_⟩
    cases r1
    have F1 := F.grow g1
    have h2' := g1.ex _ _ h2
    have h3' := g1.fi a h3 (by rw [h2]; intro z; cases z)
    refine ⟨a, _, _, rfl, rfl, h2', by rw [List.length_map]; exact small_lt hz, ?_⟩
    exact m.nx _ σ (T1.put a (.lst (ns.map V.int ++ [V.int i]))) (g1.w.trans (Gw.put g1.ok h3')) (F1.chg (e1 := .ownI (ns ++ [i])) hr rfl h1 rfl ⟨a, rfl, by rw [List.map_append]; exact upd_same, h3'⟩) h
theorem js_app (n : Nat) {apos cpos : Pos} (hr : ρ[n]? = some (some (.own l ds))) (he : JE X la e ρ d) (h : P.nx (ρ.set n (some (.own l (ds ++ [d]))))) (hz : ds.length < 100000) (hle : Lv.le la l = true := by rfl) (hN : X.N[n]? = some x := by rfl)
    (hv : Vis X.env.scope x := by first | exact Or.inl rfl | exact Or.inr (Or.inl rfl) | exact Or.inr (Or.inr rfl)) (hd : (x == ("__debug__" : Str)) = false := by decide) (hcd : (x == ("__classdict__" : Str)) = false := by decide)
    (hbm : ∀ (to : TE) (ta : TA), PE X (.Name x p) to → PA X [e] ta → PE X (.Call (.Attribute (.Name x p) "append" apos) [e] [] cpos) (tBM X.K "list" rAppend to ta) := by
      exact fun to ta ho hx => pe_bm PySem.F.plainAttrs_list PySem.F.slot_list_append PySem.F.type_list_append mt_append ho hx)
    (hst : starEach [e] X.env = (false, eval e X.env) :: starEach [] X.env := by exact star_c rfl) (hs : swapsWith (.Call (.Attribute (.Name x p) "append" apos) [e] [] cpos) none pos.line X.env = pure false := by exact sw_ns rfl) :
    JS X (.Expr (.Call (.Attribute (.Name x p) "append" apos) [e] [] cpos) pos) P ρ :=
  JS.of (ps_expr (hbm _ _ (pe_var hN hv hd hcd) (pa_cons pe_w pa_nil hst)) hs) fun T σ D F m => by
    obtain ⟨v, h1, hl, a, vs, rfl, h2, h3, rr⟩ := F.val n _ hr
    refine ⟨_, h1, .inl ⟨rfl, _, SqL.of h2⟩, he T σ _ F fun w T1 g1 r1 => ?_⟩
    have F1 := F.grow g1
    have h2' := g1.ex _ _ h2
    have h3' := g1.fi a h3 (by rw [h2]; intro z; cases z)
    refine ⟨a, _, w, rfl, rfl, h2', by rw [rr.length]; exact small_lt hz, ?_⟩
    refine m.nx _ σ (T1.put a (.lst (vs ++ [w]))) (g1.w.trans (Gw.put g1.ok h3')) (F1.chg (e1 := .own l (ds ++ [d])) hr rfl h1 rfl ⟨hl, a, _, rfl, upd_same, h3', ?_⟩) h
    have rw' := (rr.mono (g1.at l)).append (.cons (r1.mono (g1.ok.le hle)) .nil)
    cases l with
    | full => exact absurd rfl hl
    | imm => exact rw'
    | frs => exact rw'
theorem js_popI (n : Nat) {apos cpos : Pos} (hr : ρ[n]? = some (some (.ownI ns))) (h : P.nx (ρ.set n (some (.ownI ns.dropLast)))) (hz : 0 < ns.length) (hN : X.N[n]? = some x := by rfl)
    (hv : Vis X.env.scope x := by first | exact Or.inl rfl | exact Or.inr (Or.inl rfl) | exact Or.inr (Or.inr rfl)) (hd : (x == ("__debug__" : Str)) = false := by decide) (hcd : (x == ("__classdict__" : Str)) = false := by decide)
    (hbm : ∀ (to : TE), PE X (.Name x p) to → PE X (.Call (.Attribute (.Name x p) "pop" apos) [] [] cpos) (tBM0 X.K "list" rPop to) := by
      exact fun to ho => pe_bm0 PySem.F.plainAttrs_list PySem.F.slot_list_pop PySem.F.type_list_pop mt_pop ho)
    (hs : swapsWith (.Call (.Attribute (.Name x p) "pop" apos) [] [] cpos) none pos.line X.env = pure false := by exact sw_ns rfl) :
    JS X (.Expr (.Call (.Attribute (.Name x p) "pop" apos) [] [] cpos) pos) P ρ :=
  JS.of (ps_expr (hbm _ (pe_var hN hv hd hcd)) hs) fun T σ D F m => by
    obtain ⟨v, h1, a, rfl, h2, h3⟩ := F.val n _ hr
    refine ⟨_, h1, .inl ⟨rfl, _, SqL.of h2⟩, a, _, .int (ns[ns.length - 1]'(by omega)), rfl, rfl, h2, ?_, ?_⟩
    · rw [List.length_map, List.getElem?_map, List.getElem?_eq_getElem (by omega)]
      rfl
    · exact m.nx _ σ (T.put a (.lst (ns.map V.int).dropLast)) (Gw.put F.ok h3) (F.chg (e1 := .ownI ns.dropLast) hr rfl h1 rfl ⟨a, rfl, by rw [List.map_dropLast]; exact upd_same, h3⟩) h
/-- xs[i] = e of an own list of ints -/
theorem ixN_some {n : Nat} {i : Int} (h : inR n i) : ∃ j, j < n ∧ ixN n i = some j ∧ ((0 ≤ i ∧ j = i.toNat) ∨ (i < 0 ∧ j = (i + n).toNat)) := by
  obtain ⟨h1, h2⟩ := h
  unfold ixN
  by_cases h0 : 0 ≤ i
  · rw [if_pos h0, if_pos h2]
    exact ⟨i.toNat, by omega, rfl, .inl ⟨h0, rfl⟩⟩
  · rw [if_neg h0, if_pos h1]
    exact ⟨(i + n).toNat, by omega, rfl, .inr ⟨by omega, rfl⟩⟩
def setI (ns : List Int) (i v : Int) : List Int := ns.set (if 0 ≤ i then i.toNat else (i + ns.length).toNat) v
theorem js_setI (n : Nat) {pt : Pos} (hr : ρ[n]? = some (some (.ownI ns))) (he : JE X l e ρ (.int k)) (hb : JE X lb b ρ (.int i)) (hin : inR ns.length i) (h : P.nx (ρ.set n (some (.ownI (setI ns i k))))) (hN : X.N[n]? = some x := by rfl)
    (hv : Vis X.env.scope x := by first | exact Or.inl rfl | exact Or.inr (Or.inl rfl) | exact Or.inr (Or.inr rfl)) (hd : (x == ("__debug__" : Str)) = false := by decide) (hcd : (x == ("__classdict__" : Str)) = false := by decide)
    (hgs : ∀ (to ti : TE), PE X (.Name x p) to → PE X b ti → PG X (.Subscript (.Name x p) b pt) (gSub to ti rSetL) := by exact fun to ti h1 h2 => pg_sub h1 h2 set_list)
    (hs : swapsWithSole [.Subscript (.Name x p) b pt] e pos.line X.env = pure false := by exact sws_ns rfl) (hw : swappedStores [.Subscript (.Name x p) b pt] e X.env = pure none := by exact ss_sub)
    (h1 : (assignEach [.Subscript (.Name x p) b pt] X.env).map (·.2) = [assign (.Subscript (.Name x p) b pt) X.env] := by rfl) : JS X (.Assign [.Subscript (.Name x p) b pt] e pos) P ρ :=
  JS.of (ps_asg pe_w (hgs _ _ (pe_var hN hv hd hcd) pe_w) hs hw h1) fun T σ D F m => he T σ _ F fun w T1 g1 r1 => by
    cases r1
    obtain ⟨v, h1, a, rfl, h2, h3⟩ := F.val n _ hr
    refine ⟨_, h1, hb T1 σ _ (F.grow g1) fun u T2 g2 r2 => ?_⟩
    cases r2
    have g := g1.trans g2
    obtain ⟨j, hj, ej, q⟩ := ixN_some hin
    have h2' := g.ex _ _ h2
    have h3' := g.fi a h3 (by rw [h2]; intro z; cases z)
    refine ⟨a, _, i, j, rfl, rfl, h2', by rw [List.length_map]; exact ej, ?_⟩
    have es : (ns.map V.int).set j (V.int k) = (setI ns i k).map V.int := by
      unfold setI
      rcases q with ⟨h0, rfl⟩ | ⟨h0, rfl⟩
      · rw [if_pos h0, List.map_set]
      · rw [if_neg (by omega), List.map_set]
    rw [es]
    exact m.nx _ σ (T2.put a (.lst ((setI ns i k).map V.int))) (g.w.trans (Gw.put g.ok h3')) ((F.grow g).chg (e1 := .ownI (setI ns i k)) hr rfl h1 rfl ⟨a, rfl, upd_same, h3'⟩) h

/-! ### what is walked -/
def wI (X : Cx) (tg iter : Expr) : TI := fun σ H R => ∀ pins s, Inv X pins σ H s → wpAny (model X.prog X.w) X.A (eval iter X.env) (fun v s1 => wpAny (model X.prog X.w) X.A (pyIter v) (PIE X pins σ tg R) X.xe s1) X.xe s
theorem pi_w {tg iter : Expr} : PI X tg iter (wI X tg iter) := ⟨fun pins s σ H R I h => h pins s I⟩
/-- J walks ds -/
def Walks (K : PySem.W.Frag) (T0 : W3) (J : It) (l : Lv) (ds : List D) : Prop := ∀ (T : W3) (i : Nat), Same T0.i T.i → Same T0.n T.n → Ok T →
  (∀ d, ds[i]? = some d → J.go i T.h ∧ ∀ x H', J.yld i T.h x H' → ∃ T', T'.h = H' ∧ Grow T T' ∧ Rp K (T'.at l) x d) ∧ (ds[i]? = none → J.stop i T.h)
def JI (X : Cx) (tg iter : Expr) (l : Lv) (ρ : PEnv) (ds : List D) : Prop :=
  ∀ (T : W3) (σ : L2.St) (R : It → Hp → Prop), Fr X.K T σ ρ → (∀ J T', Grow T T' → Walks X.K T' J l ds → R J T'.h) → wI X tg iter σ T.h R
theorem JI.of {tg iter : Expr} {ti : TI} (h : PI X tg iter ti) (r : ∀ (T : W3) (σ : L2.St) (R : It → Hp → Prop), Fr X.K T σ ρ → (∀ J T', Grow T T' → Walks X.K T' J l ds → R J T'.h) → ti σ T.h R) : JI X tg iter l ρ ds :=
  fun T σ R F q pins s I => h.run pins s σ T.h R I (r T σ R F q)
theorem ji_list {tg : Expr} (ha : JE X la a ρ (.il ns)) (z : Lv.le la .imm = true := by rfl) : JI X tg a .frs ρ (ns.map D.int) :=
  JI.of (pi_list pe_w) fun T σ R F q => ha T σ _ F fun v T1 g1 r1 => by
    cases r1 with
    | il h =>
      have h := SqL.of (K := X.K) h
      have hi := (g1.ok.le z).seq h
      refine ⟨_, rfl, ⟨_, g1.ok.ih.seq hi⟩, q _ T1 g1 fun T' i s sn o => ⟨fun d e => ?_, fun e => ?_⟩⟩
      · have e' : ns[i]?.map D.int = some d := by rw [← List.getElem?_map]; exact e
        cases en : ns[i]? with
        | none => rw [en] at e'; cases e'
        | some n =>
          rw [en] at e'
          cases e'
          have hx : (ns.map V.int)[i]? = some (.int n) := by rw [List.getElem?_map, en]; rfl
          refine ⟨⟨_, _, (s.trans o.ih).seq hi, hx⟩, fun x H' y => ?_⟩
          obtain ⟨rfl, y⟩ := y
          have ex := y _ ((s.trans o.ih).seq hi)
          rw [hx] at ex
          cases ex
          exact ⟨T', rfl, Grow.refl o, .int n⟩
      · refine ⟨_, (s.trans o.ih).seq hi, ?_⟩
        have := List.getElem?_eq_none_iff.mp e
        rw [List.length_map] at this ⊢
        exact this
theorem ji_lst {tg : Expr} (ha : JE X l a ρ (.lst ds)) (z : Lv.le l .imm = true := by rfl) : JI X tg a l ρ ds :=
  JI.of (pi_list pe_w) fun T σ R F q => ha T σ _ F fun v T1 g1 r1 => by
    cases r1 with
    | lst h rr =>
      have h := SqL.of (K := X.K) h
      have hi := (g1.ok.le z).seq h
      have rn : ∀ (T' : W3), Same T1.i T'.i → Ok T' → ∀ {x : V} {d : D}, Rp X.K (T1.at .imm) x d → Rp X.K (T'.at .imm) x d := fun T' s o x d r => r.mono s
      refine ⟨_, rfl, ⟨_, g1.ok.ih.seq hi⟩, ?_⟩
      cases l with
      | full => cases z
      | imm =>
        refine q _ T1 g1 fun T' i s sn o => ⟨fun d e => ?_, fun e => ?_⟩
        · obtain ⟨w, e1, e2⟩ := rr.get e
          refine ⟨⟨_, _, (s.trans o.ih).seq hi, e1⟩, fun x H' y => ?_⟩
          obtain ⟨rfl, y⟩ := y
          have ex := y _ ((s.trans o.ih).seq hi)
          rw [e1] at ex
          cases ex
          exact ⟨T', rfl, Grow.refl o, e2.mono s⟩
        · refine ⟨_, (s.trans o.ih).seq hi, ?_⟩
          have := List.getElem?_eq_none_iff.mp e
          rw [rr.length]
          exact this
      | frs =>
        have rr' := rr.mono g1.ok.ni
        refine q _ T1 g1 fun T' i s sn o => ⟨fun d e => ?_, fun e => ?_⟩
        · obtain ⟨w, e1, e2⟩ := rr.get e
          refine ⟨⟨_, _, (s.trans o.ih).seq hi, e1⟩, fun x H' y => ?_⟩
          obtain ⟨rfl, y⟩ := y
          have ex := y _ ((s.trans o.ih).seq hi)
          rw [e1] at ex
          cases ex
          exact ⟨T', rfl, Grow.refl o, e2.mono sn⟩
        · refine ⟨_, (s.trans o.ih).seq hi, ?_⟩
          have := List.getElem?_eq_none_iff.mp e
          rw [rr.length]
          exact this
end
end Lf

set_option Elab.async false
set_option linter.all false
set_option maxRecDepth 100000
set_option maxHeartbeats 2000000
set_option autoImplicit false
namespace Lf
open PySem L2
section
variable {X : Cx} {e a b c : Expr} {es : List Expr} {ρ ρ1 : PEnv} {d d1 d2 d3 : D} {l la lb lc : Lv} {pos p p2 : Pos} {i j k : Int} {ns ms : List Int} {ds fs : List D} {kt : Nat} {x y z : Str} {st : Stmt} {sts : List Stmt} {P : PEnds}
/-- a tuple is walked -/
theorem ji_tup {tg : Expr} (ha : JE X l a ρ (.tup ds)) (z : Lv.le l .imm = true := by rfl) : JI X tg a l ρ ds :=
  JI.of (pi_tup pe_w) fun T σ R F q => ha T σ _ F fun v T1 g1 r1 => by
    cases r1 with
    | tup h rr =>
      have h := SqT.of (K := X.K) h
      have hi := seqT (g1.ok.le z) h
      refine ⟨_, rfl, ⟨_, seqT g1.ok.ih hi⟩, q _ T1 g1 fun T' i s sn o => ⟨fun d e => ?_, fun e => ?_⟩⟩
      · obtain ⟨w, e1, e2⟩ := rr.get e
        refine ⟨⟨_, _, seqT (s.trans o.ih) hi, e1⟩, fun x H' y => ?_⟩
        obtain ⟨rfl, y⟩ := y
        have ex := y _ (seqT (s.trans o.ih) hi)
        rw [e1] at ex
        cases ex
        refine ⟨T', rfl, Grow.refl o, ?_⟩
        cases l with
        | full => cases z
        | imm => exact e2.mono s
        | frs => exact e2.mono sn
      · refine ⟨_, seqT (s.trans o.ih) hi, ?_⟩
        have := List.getElem?_eq_none_iff.mp e
        rw [rr.length]
        exact this
/-- lo, lo + 1, .. -/
def rngI (lo : Int) (n : Nat) : List Int := (List.range n).map fun (i : Nat) => lo + (i : Int)
theorem rngI_get {lo : Int} {n i : Nat} : (rngI lo n)[i]? = if i < n then some (lo + (i : Int)) else none := by
  unfold rngI
  rw [List.getElem?_map]
  by_cases h : i < n
  · rw [if_pos h, List.getElem?_range h]; rfl
  · rw [if_neg h, List.getElem?_eq_none (by simpa using h)]; rfl
theorem rngI_length {lo : Int} {n : Nat} : (rngI lo n).length = n := by unfold rngI; simp
theorem walks_range {lo : Int} {n : Nat} {T0 : W3} : Walks X.K T0 (Itr lo n) .frs ((rngI lo n).map D.int) := fun T i s sn o => by
  constructor
  · intro d e
    rw [List.getElem?_map, rngI_get] at e
    by_cases h : i < n
    · rw [if_pos h] at e
      cases e
      refine ⟨h, fun x H' y => ?_⟩
      obtain ⟨rfl, rfl⟩ := y
      exact ⟨T, rfl, Grow.refl o, .int _⟩
    · rw [if_neg h] at e
      cases e
  · intro e
    rw [List.getElem?_map, rngI_get] at e
    by_cases h : i < n
    · rw [if_pos h] at e
      cases e
    · exact Nat.le_of_not_lt h
theorem ji_range {tg : Expr} (hm : X.mg "range" = none) (ha : JE X la a ρ (.int i)) (hz : i ≤ 100000) (h0 : -100000 ≤ i) (hg : Gl X "range" := by rfl) (hs : starEach [a] X.env = [(false, eval a X.env)] := by exact star_1 rfl) : JI X tg (.Call (.Name "range" p) [a] [] pos) .frs ρ ((rngI 0 i.toNat).map D.int) :=
  JI.of (pi_range1 hg hm (pa_cons pe_w pa_nil hs) hs) fun T σ R F q => ha T σ _ F fun v T1 g1 r1 => by
    cases r1
    exact ⟨i, rfl, by omega, by omega, q _ T1 g1 walks_range⟩
theorem ji_range2 {tg : Expr} (hm : X.mg "range" = none) (ha : JE X la a ρ (.int i)) (hb : JE X lb b ρ (.int j)) (hz : -100000 ≤ i ∧ i ≤ 100000) (hz2 : -100000 ≤ j ∧ j ≤ 100000) (hg : Gl X "range" := by rfl) (hs : starEach [a, b] X.env = [(false, eval a X.env), (false, eval b X.env)] := by exact star_1 rfl)
    (hs2 : starEach [b] X.env = [(false, eval b X.env)] := by exact star_1 rfl) : JI X tg (.Call (.Name "range" p) [a, b] [] pos) .frs ρ ((rngI i (j - i).toNat).map D.int) :=
  JI.of (pi_range2 hg hm (pa_cons pe_w (pa_cons pe_w pa_nil hs2) (by rw [hs, hs2])) hs hs2) fun T σ R F q => ha T σ _ F fun v T1 g1 r1 => hb T1 σ _ (F.grow g1) fun u T2 g2 r2 => by
    cases r1
    cases r2
    exact ⟨i, j, rfl, by omega, q _ T2 (g1.trans g2) walks_range⟩
/-- reversed(range(n)) -/
theorem ji_revRange {tg : Expr} {p3 pos3 : Pos} (hm : X.mg "reversed" = none) (hm2 : X.mg "range" = none) (ha : JE X la a ρ (.int i)) (hz : -100000 ≤ i ∧ i ≤ 100000) (hg : Gl X "reversed" := by rfl) (hg2 : Gl X "range" := by rfl) (na : starEach [a] X.env = (false, eval a X.env) :: starEach [] X.env := by exact star_c rfl)
    (hs : starEach [.Call (.Name "range" p3) [a] [] pos3] X.env = (false, eval (.Call (.Name "range" p3) [a] [] pos3) X.env) :: starEach [] X.env := by exact star_c rfl) :
    JI X tg (.Call (.Name "reversed" p) [.Call (.Name "range" p3) [a] [] pos3] [] pos) .frs ρ ((rngI 0 i.toNat).reverse.map D.int) :=
  JI.of (pi_revR hg hm (prg_1 hg2 hm2 pe_w na) hs) fun T σ R F q => ha T σ _ F fun v T1 g1 r1 => by
    cases r1
    refine ⟨i, rfl, by omega, by omega, by omega, by omega, q _ T1 g1 fun T' t s sn o => ?_⟩
    have hn : (i - 0).toNat = i.toNat := by rw [Int.sub_zero]
    constructor
    · intro d e
      have ht : t < i.toNat := by
        have := (List.getElem?_eq_some_iff.mp e).1
        rw [List.length_map, List.length_reverse, rngI_length] at this
        exact this
      rw [List.getElem?_map, List.getElem?_reverse (by rw [rngI_length]; exact ht), rngI_get, rngI_length, if_pos (by omega)] at e
      cases e
      refine ⟨by show t < (i - 0).toNat; rw [hn]; exact ht, fun x H' y => ?_⟩
      obtain ⟨rfl, rfl⟩ := y
      refine ⟨T', rfl, Grow.refl o, ?_⟩
      rw [hn]
      have ee : (0 : Int) + (i.toNat : Int) - 1 + (t : Int) * -1 = 0 + ((i.toNat - 1 - t : Nat) : Int) := by omega
      rw [ee]
      exact .int _
    · intro e
      have := List.getElem?_eq_none_iff.mp e
      rw [List.length_map, List.length_reverse, rngI_length] at this
      show (i - 0).toNat ≤ t
      rw [hn]
      exact this
/-- enumerate(xs), of ints -/
def enumI (ns : List Int) : List D := (List.range ns.length).map fun (i : Nat) => .tup [.int (i : Int), .int (ns.getD i 0)]
theorem enumI_get {i : Nat} {n : Int} (h : ns[i]? = some n) : (enumI ns)[i]? = some (.tup [.int i, .int n]) := by
  unfold enumI
  have hi := (List.getElem?_eq_some_iff.mp h).1
  rw [List.getElem?_map, List.getElem?_range hi, Option.map_some, List.getD_eq_getElem?_getD, h]
  rfl
theorem enumI_length : (enumI ns).length = ns.length := by unfold enumI; simp
theorem ji_enum {elts : List Expr} {kk : Nat} {tpos : Pos} (hm : X.mg "enumerate" = none) (ha : JE X la a ρ (.il ns)) (z : Lv.le la .imm = true := by rfl) (hg : Gl X "enumerate" := by rfl) (hs : starEach [a] X.env = [(false, eval a X.env)] := by exact star_1 rfl) :
    JI X (.Tuple elts kk tpos) (.Call (.Name "enumerate" p) [a] [] pos) .frs ρ (enumI ns) :=
  JI.of (pi_enum hg hm (pa_cons pe_w pa_nil hs) hs) fun T σ R F q => ha T σ _ F fun v T1 g1 r1 => by
    cases r1 with
    | il h =>
      have h := SqL.of (K := X.K) h
      have hi := (g1.ok.le z).seq h
      refine ⟨_, _, rfl, g1.ok.ih.seq hi, q _ T1 g1 fun T' i s sn o => ⟨fun d e => ?_, fun e => ?_⟩⟩
      · have hlt : i < ns.length := by
          have := (List.getElem?_eq_some_iff.mp e).1
          rw [enumI_length] at this
          exact this
        have en : ns[i]? = some ns[i] := List.getElem?_eq_getElem hlt
        rw [enumI_get en] at e
        cases e
        have hx : (ns.map V.int)[i]? = some (.int ns[i]) := by rw [List.getElem?_map, en]; rfl
        have hq := (s.trans o.ih).seq hi
        refine ⟨⟨_, _, hq, hx⟩, fun x H' y => ?_⟩
        obtain ⟨t, w, rfl, ht, rfl, y⟩ := y
        have ex := y _ hq
        rw [hx] at ex
        cases ex
        exact ⟨(T'.put t _).fix t _, rfl, (Grow.put o ht).fix ht (o.i_none ht) upd_same, .tup upd_same (.cons (.int _) (.cons (.int _) .nil))⟩
      · refine ⟨_, (s.trans o.ih).seq hi, ?_⟩
        have := List.getElem?_eq_none_iff.mp e
        rw [enumI_length] at this
        rw [List.length_map]
        exact this
/-- zip(xs, ys), of ints -/
def zipI (ns ms : List Int) : List D := (List.zip ns ms).map fun p => .tup [.int p.1, .int p.2]
theorem ji_zip {elts : List Expr} {kk : Nat} {tpos : Pos} (hm : X.mg "zip" = none) (ha : JE X la a ρ (.il ns)) (hb : JE X lb b ρ (.il ms)) (z : Lv.le la .imm = true := by rfl) (z2 : Lv.le lb .imm = true := by rfl) (hg : Gl X "zip" := by rfl) (hs : starEach [a, b] X.env = (false, eval a X.env) :: starEach [b] X.env := by exact star_c rfl)
    (hs2 : starEach [b] X.env = (false, eval b X.env) :: starEach [] X.env := by exact star_c rfl) (hpl : (backTo pos (starEach [b] X.env)).any (·.1) = false := by exact back_ns rfl) : JI X (.Tuple elts kk tpos) (.Call (.Name "zip" p) [a, b] [] pos) .frs ρ (zipI ns ms) :=
  JI.of (pi_zip hg hm (pa_cons pe_w (pa_cons pe_w pa_nil hs2) hs) hs hpl) fun T σ R F q => ha T σ _ F fun v T1 g1 r1 => hb T1 σ _ (F.grow g1) fun u T2 g2 r2 => by
    have g := g1.trans g2
    cases r1 with
    | il h =>
      have h := SqL.of (K := X.K) h
      cases r2 with
      | il h2 =>
        have h2 := SqL.of (K := X.K) h2
        have hi := g2.xi.seq ((g1.ok.le z).seq h)
        have hi2 := (g2.ok.le z2).seq h2
        refine ⟨_, _, _, _, rfl, g2.ok.ih.seq hi, g2.ok.ih.seq hi2, q _ T2 g fun T' i s sn o => ⟨fun d e => ?_, fun e => ?_⟩⟩
        · have hlt : i < ns.length ∧ i < ms.length := by
            have := (List.getElem?_eq_some_iff.mp e).1
            unfold zipI at this
            rw [List.length_map, List.length_zip] at this
            omega
          have hq := (s.trans o.ih).seq hi
          have hq2 := (s.trans o.ih).seq hi2
          have en : ns[i]? = some ns[i] := List.getElem?_eq_getElem hlt.1
          have em : ms[i]? = some ms[i] := List.getElem?_eq_getElem hlt.2
          have hx : (ns.map V.int)[i]? = some (.int ns[i]) := by rw [List.getElem?_map, en]; rfl
          have hy : (ms.map V.int)[i]? = some (.int ms[i]) := by rw [List.getElem?_map, em]; rfl
          have ed : d = .tup [.int ns[i], .int ms[i]] := by
            unfold zipI at e
            rw [List.getElem?_map, List.getElem?_eq_getElem (by rw [List.length_zip]; omega), List.getElem_zip] at e
            cases e
            rfl
          subst ed
          refine ⟨⟨_, _, _, _, hq, hq2, hx, hy⟩, fun x H' y => ?_⟩
          obtain ⟨t, w, w2, rfl, ht, rfl, y1, y2⟩ := y
          have ex := y1 _ hq
          rw [hx] at ex
          cases ex
          have ey := y2 _ hq2
          rw [hy] at ey
          cases ey
          exact ⟨(T'.put t _).fix t _, rfl, (Grow.put o ht).fix ht (o.i_none ht) upd_same, .tup upd_same (.cons (.int _) (.cons (.int _) .nil))⟩
        · refine ⟨_, _, (s.trans o.ih).seq hi, (s.trans o.ih).seq hi2, ?_⟩
          have := List.getElem?_eq_none_iff.mp e
          unfold zipI at this
          rw [List.length_map, List.length_zip] at this
          rw [List.length_map, List.length_map]
          omega

/-! ### for, while -/
theorem drop_cons {α : Type} {xs : List α} {i : Nat} {x : α} (h : xs[i]? = some x) : xs.drop i = x :: xs.drop (i + 1) := by
  obtain ⟨h1, h2⟩ := List.getElem?_eq_some_iff.mp h
  rw [← h2]
  exact List.drop_eq_getElem_cons h1
/-- a for: inv holds of what is still to come and of the names -/
theorem js_for {tg iter : Expr} {body : List Stmt} (inv : List D → PEnv → Prop) (hi : JI X tg iter l ρ ds) (h0 : inv ds ρ)
    (hs : ∀ d rest ρ', inv (d :: rest) ρ' → ∃ ρ2, JG X tg l d ρ' ρ2 ∧ JSs X body { nx := inv rest, rt := P.rt, bk := P.nx, ct := inv rest } ρ2) (hd : ∀ ρ', inv [] ρ' → P.nx ρ')
    (hp : PassesOwn (model X.prog X.w) X.A X.env X.xe := by exact PassesOwn.never) (hc : X.calm = true := by rfl) (hf : ∀ x, foldedSetIterable iter X.env x = pure x := by exact fs_ns rfl) : JS X (.For tg iter body [] pos) P ρ :=
  JS.of (ps_for hp hc pi_w pg_w pss_w hf) fun T σ D F m => hi T σ _ F fun J T1 g1 W => by
    have F1 := F.grow g1
    refine ⟨fun i m σ H => m = ds.length - i ∧ i ≤ ds.length ∧ ∃ T2 ρ', T2.h = H ∧ Gw T1 T2 ∧ Fr X.K T2 σ ρ' ∧ inv (ds.drop i) ρ', ⟨ds.length, by simp, Nat.zero_le _, T1, ρ, rfl, Gw.refl g1.ok, F1, h0⟩, ?_⟩
    rintro i mm σ2 H2 ⟨rfl, hle, T2, ρ', rfl, gw, F2, hv⟩
    obtain ⟨w1, w2⟩ := W T2 i gw.xi gw.xn gw.ok
    cases e : ds[i]? with
    | none =>
      refine .inl ⟨w2 e, ?_⟩
      rw [List.drop_eq_nil_of_le (List.getElem?_eq_none_iff.mp e)] at hv
      exact m.nx ρ' σ2 T2 (g1.w.trans gw) F2 (hd ρ' hv)
    | some d =>
      obtain ⟨go, yld⟩ := w1 d e
      have hlt := (List.getElem?_eq_some_iff.mp e).1
      rw [drop_cons e] at hv
      obtain ⟨ρ2, hg, hb⟩ := hs d _ ρ' hv
      refine .inr ⟨go, fun σ3 H3 => ∃ T3 ρ3, T3.h = H3 ∧ Gw T1 T3 ∧ Fr X.K T3 σ3 ρ3 ∧ inv (ds.drop (i + 1)) ρ3, fun σ3 H3 ⟨T3, ρ3, e3, g3, F3, v3⟩ => ⟨ds.length - (i + 1), by omega, rfl, by omega, T3, ρ3, e3, g3, F3, v3⟩, fun x H' y => ?_⟩
      obtain ⟨T3, rfl, g3, r3⟩ := yld x H' y
      refine hg T3 σ2 x _ (F2.grow g3) r3 fun σ4 F4 => ?_
      have gg := gw.trans g3.w
      have g0 := g1.w.trans gg
      exact hb T3 σ4 _ F4 ⟨fun ρ5 σ5 T5 g5 F5 v5 => ⟨T5, ρ5, rfl, gg.trans g5, F5, v5⟩, fun d v T5 g5 => m.rt d v T5 (g0.trans g5), fun ρ5 σ5 T5 g5 F5 v5 => m.nx ρ5 σ5 T5 (g0.trans g5) F5 v5, fun ρ5 σ5 T5 g5 F5 v5 => ⟨T5, ρ5, rfl, gg.trans g5, F5, v5⟩, fun _ _ _ _ z => z.elim, fun _ _ _ _ _ _ _ z => z.elim⟩
/-- .. over ints -/
theorem js_forI {tg iter : Expr} {body : List Stmt} (inv : List Int → PEnv → Prop) (hi : JI X tg iter l ρ (ns.map D.int)) (h0 : inv ns ρ)
    (hs : ∀ n rest ρ', inv (n :: rest) ρ' → ∃ ρ2, JG X tg l (.int n) ρ' ρ2 ∧ JSs X body { nx := inv rest, rt := P.rt, bk := P.nx, ct := inv rest } ρ2) (hd : ∀ ρ', inv [] ρ' → P.nx ρ')
    (hp : PassesOwn (model X.prog X.w) X.A X.env X.xe := by exact PassesOwn.never) (hc : X.calm = true := by rfl) (hf : ∀ x, foldedSetIterable iter X.env x = pure x := by exact fs_ns rfl) : JS X (.For tg iter body [] pos) P ρ :=
  js_for (fun ds ρ' => ∃ ns : List Int, ds = ns.map D.int ∧ inv ns ρ') hi ⟨ns, rfl, h0⟩ (fun d rest ρ' ⟨ns', e, v⟩ => by
    cases ns' with
    | nil => cases e
    | cons n r =>
      rw [List.map_cons] at e
      cases e
      obtain ⟨ρ2, h1, h2⟩ := hs n r ρ' v
      exact ⟨ρ2, h1, h2.imp (fun ρ3 q => ⟨r, rfl, q⟩) (fun _ q => q) (fun _ q => q) (fun ρ3 q => ⟨r, rfl, q⟩) (fun _ q => q) (fun _ _ q => q)⟩) (fun ρ' ⟨ns', e, v⟩ => by
    cases ns' with
    | nil => exact hd ρ' v
    | cons n r => cases e) hp hc hf
theorem js_while {body : List Stmt} (inv : PEnv → Prop) (μ : PEnv → Nat) (h0 : inv ρ)
    (hs : ∀ ρ', inv ρ' → ∃ v, JT X c ρ' v ∧ (v = true → JSs X body { nx := fun ρ2 => inv ρ2 ∧ μ ρ2 < μ ρ', rt := P.rt, bk := P.nx, ct := fun ρ2 => inv ρ2 ∧ μ ρ2 < μ ρ' } ρ') ∧ (v = false → P.nx ρ'))
    (hp : PassesOwn (model X.prog X.w) X.A X.env X.xe := by exact PassesOwn.never) : JS X (.While c body [] pos) P ρ :=
  JS.of (ps_while hp pt_w pss_w) fun T σ D F m => by
    refine ⟨fun mm σ H => ∃ T2 ρ', mm = μ ρ' ∧ T2.h = H ∧ Gw T T2 ∧ Fr X.K T2 σ ρ' ∧ inv ρ', ⟨_, T, ρ, rfl, rfl, Gw.refl F.ok, F, h0⟩, ?_⟩
    rintro mm σ2 H2 ⟨T2, ρ', rfl, rfl, gw, F2, hv⟩
    obtain ⟨v, ht, hb, he⟩ := hs ρ' hv
    refine ht T2 σ2 _ F2 fun T3 g3 => ?_
    have g := gw.trans g3.w
    cases v with
    | false => exact iteF (m.nx ρ' σ2 T3 g (F2.grow g3) (he rfl))
    | true =>
      refine iteT ⟨fun σ' H' => ∃ T4 ρ4, T4.h = H' ∧ Gw T T4 ∧ Fr X.K T4 σ' ρ4 ∧ inv ρ4 ∧ μ ρ4 < μ ρ', fun σ' H' ⟨T4, ρ4, e4, g4, F4, v4, l4⟩ => ⟨_, l4, T4, ρ4, rfl, e4, g4, F4, v4⟩, ?_⟩
      exact hb rfl T3 σ2 _ (F2.grow g3) ⟨fun ρ5 σ5 T5 g5 F5 v5 => ⟨T5, ρ5, rfl, g.trans g5, F5, v5⟩, fun d v T5 g5 => m.rt d v T5 (g.trans g5), fun ρ5 σ5 T5 g5 F5 v5 => m.nx ρ5 σ5 T5 (g.trans g5) F5 v5, fun ρ5 σ5 T5 g5 F5 v5 => ⟨T5, ρ5, rfl, g.trans g5, F5, v5⟩, fun _ _ _ _ z => z.elim, fun _ _ _ _ _ _ _ z => z.elim⟩

/-! ### comprehensions -/
abbrev Blk (X : Cx) (s : Shared) (H : Hp) (scope : Scope) (C : Addr) (cl : List (Str × Addr)) (fp : List Addr) : Cx := X.blk s H scope (compEnvC scope cl C X.env) fp
/-- .. the names of the block forgotten -/
def wipeE (ρ : PEnv) (n : Nat) : PEnv := ρ.set n none
theorem Fr.wipe {K : PySem.W.Frag} {T : W3} {σ : L2.St} (F : Fr K T σ ρ) (n : Nat) : Fr K T (L2.wipe σ [n]) (wipeE ρ n) := by
  have e : L2.wipe σ [n] = σ.set n none := rfl
  have get : ∀ {j : Nat} {e' : E}, (wipeE ρ n)[j]? = some (some e') → n ≠ j ∧ ρ[j]? = some (some e') := fun {j e'} h => by
    rcases getset h with ⟨_, q⟩ | q
    · cases q
    · exact q
  rw [e]
  refine ⟨F.ok, by rw [wipeE, List.length_set, List.length_set, F.len], fun j e' h => ?_, fun j k e' e2 a h1 h2 o1 o2 s1 s2 => ?_, fun j k e' e2 a h1 h2 => F.sepT j k e' e2 a (get h1).2 (get h2).2, fun j k e' e2 a h1 h2 m1 o2 s2 => ?_⟩
  · obtain ⟨h1, h2⟩ := get h
    obtain ⟨v, q1, q2⟩ := F.val j e' h2
    exact ⟨v, by rw [List.getElem?_set_ne h1]; exact q1, q2⟩
  · obtain ⟨n1, h1⟩ := get h1
    obtain ⟨n2, h2⟩ := get h2
    rw [List.getElem?_set_ne n1] at s1
    rw [List.getElem?_set_ne n2] at s2
    exact F.sep j k e' e2 a h1 h2 o1 o2 s1 s2
  · obtain ⟨n2, h2⟩ := get h2
    rw [List.getElem?_set_ne n2] at s2
    exact F.sepO j k e' e2 a (get h1).2 h2 m1 o2 s2
end
end Lf

set_option Elab.async false
set_option linter.all false
set_option maxRecDepth 100000
set_option maxHeartbeats 2000000
set_option autoImplicit false
namespace Lf
open PySem L2
section
variable {X : Cx} {e a b c : Expr} {es : List Expr} {ρ ρ1 : PEnv} {d d1 d2 d3 : D} {l la lb lc : Lv} {pos p p2 : Pos} {i j k : Int} {ns ms : List Int} {ds fs : List D} {kt : Nat} {x y z : Str} {st : Stmt} {sts : List Stmt} {P : PEnds}
/-! ### comprehensions -/
def wTs (X : Cx) (ifs : List Expr) : TT := fun σ H Q => ∀ pins s, Inv X pins σ H s →
    wpAny (model X.prog X.w) X.A (forIn ifs true fun c r => if r = true then do let ok ← isTrue c X.env (eval c X.env); pure (ForInStep.yield ok) else pure (ForInStep.yield r)) (TP X pins σ Q) X.xe s
theorem pts_w {ifs : List Expr} : PTs X ifs (wTs X ifs) := ⟨fun pins s σ H Q I h => h pins s I⟩
def JTs (X : Cx) (ifs : List Expr) (ρ : PEnv) (v : Bool) : Prop :=
  ∀ (T : W3) (σ : L2.St) (Q : Bool → Hp → Prop), Fr X.K T σ ρ → (∀ T', Grow T T' → Q v T'.h) → wTs X ifs σ T.h Q
theorem jts_nil : JTs X [] ρ true := fun T σ Q F q pins s I => pts_nil.run pins s σ T.h Q I (q T (Grow.refl F.ok))
theorem jts_one {v : Bool} (h : JT X c ρ v) : JTs X [c] ρ v := fun T σ Q F q pins s I => (pts_one pt_w).run pins s σ T.h Q I (h T σ Q F q)
variable {scope : Scope} {elt tg iter : Expr} {ifs : List Expr}
/-- an item is bound to the target in a block: the slot's value alone is new -/
def JGb (X : Cx) (tg : Expr) (l : Lv) (d : D) (own : List Nat) (ρ ρ' : PEnv) : Prop :=
  ∀ (T : W3) (σ : L2.St) (v : V) (Q : L2.St → Hp → Prop), Fr X.K T σ ρ → Rp X.K (T.at l) v d → (∀ σ', L2.wipe σ' own = L2.wipe σ own → Fr X.K T σ' ρ' → Q σ' T.h) → wG X tg v σ T.h Q
def wipeL (ρ : PEnv) : List Nat → PEnv
  | [] => ρ
  | n :: r => wipeE (wipeL ρ r) n
theorem Fr.wipeL {K : PySem.W.Frag} {T : W3} {σ : L2.St} (F : Fr K T σ ρ) : ∀ (own : List Nat), Fr K T (L2.wipe σ own) (Lf.wipeL ρ own)
  | [] => F
  | n :: r => (Fr.wipeL F r).wipe n
/-- the reading of a comprehension -/
theorem lc_run {own : List Nat} {tt : TT} {te : TE} {g : TG} {wi : TI} {l' : Lv} {Tst : D → Bool} {f : D → D} {ρd : D → PEnv} (hl' : Lv.le l' .imm = true)
    (hi : ∀ (T : W3) (σ : L2.St) (R : It → Hp → Prop), Fr X.K T σ ρ → (∀ J T', Grow T T' → Walks X.K T' J l ds → R J T'.h) → wi σ T.h R)
    (hg : ∀ d, d ∈ ds → ∀ (T : W3) (σ : L2.St) (v : V) (Q : L2.St → Hp → Prop), Fr X.K T σ (wipeL ρ own) → Rp X.K (T.at l) v d → (∀ σ', L2.wipe σ' own = L2.wipe σ own → Fr X.K T σ' (ρd d) → Q σ' T.h) → g v σ T.h Q)
    (ht : ∀ d, d ∈ ds → ∀ (T : W3) (σ : L2.St) (Q : Bool → Hp → Prop), Fr X.K T σ (ρd d) → (∀ T', Grow T T' → Q (Tst d) T'.h) → tt σ T.h Q)
    (he : ∀ d, d ∈ ds → Tst d = true → ∀ (T : W3) (σ : L2.St) (Q : VK), Fr X.K T σ (ρd d) → (∀ v T', Grow T T' → Rp X.K (T'.at l') v (f d) → Q v T'.h) → te σ T.h Q)
    (hz : ds.length ≤ 100000) (T : W3) (σ : L2.St) (Q : VK) (F : Fr X.K T σ ρ)
    (q : ∀ a vs T', Grow T T' → T.h a = none → T'.i a = none → T'.h a = some (.lst vs) → RpAll X.K (T'.at l') vs ((ds.filter Tst).map f) → Q (.ref a) T'.h) : tLc wi g tt te own σ T.h Q := by
  refine hi T σ _ F fun J T1 g1 W => ?_
  intro D0 hD
  have F1 := (F.grow g1)
  have hww : L2.wipe (L2.wipe σ own) own = L2.wipe σ own := by
    have key : ∀ (own : List Nat) (σ : L2.St) (n : Nat), L2.wipe (σ.set n none) own = (L2.wipe σ own).set n none := by
      intro own
      induction own with
      | nil => intro σ n; rfl
      | cons v r ih =>
        intro σ n
        show (L2.wipe (σ.set n none) r).set v none = ((L2.wipe σ r).set v none).set n none
        rw [ih]
        by_cases e : n = v
        · subst e; rfl
        · rw [List.set_comm _ _ e]
    have key2 : ∀ (own : List Nat) (σ : L2.St), L2.wipe (L2.wipe σ own) own = L2.wipe σ own := by
      intro own
      induction own with
      | nil => intro σ; rfl
      | cons v r ih =>
        intro σ
        show (L2.wipe ((L2.wipe σ r).set v none) r).set v none = (L2.wipe σ r).set v none
        rw [key, ih, List.set_set]
    exact key2 own σ
  refine ⟨fun i m H => m = ds.length - i ∧ i ≤ ds.length ∧ ∃ T2 vs, T2.h = H ∧ Gs T1 T2 ∧ Same T1.h T2.h ∧ Fr X.K T2 σ ρ ∧ T2.i D0 = none ∧ T2.h D0 = some (.lst vs) ∧ RpAll X.K (T2.at l') vs (((ds.take i).filter Tst).map f),
    ⟨ds.length, by simp, Nat.zero_le _, T1.put D0 (.lst []), [], rfl, (Grow.put g1.ok hD).s, same_new hD, F1.put (g1.ok.i_none hD) (F1.fresh hD), g1.ok.i_none hD, upd_same, .nil⟩, ?_⟩
  rintro i m H2 ⟨rfl, hle, T2, vs, rfl, gw, sh, F2, hDi, hDh, rr⟩
  obtain ⟨w1, w2⟩ := W T2 i gw.xi gw.xn gw.ok
  have hD2 : T.h D0 = none := Same.free g1.ex hD
  cases e : ds[i]? with
  | none =>
    refine .inl ⟨w2 e, ?_⟩
    rw [List.take_of_length_le (List.getElem?_eq_none_iff.mp e)] at rr
    exact q D0 vs T2 ⟨gw.ok, g1.ex.trans sh, g1.xi.trans gw.xi, g1.xn.trans gw.xn, fun a h1 h2 => gw.fi a (g1.fi a h1 h2) (Same.some g1.ex h2), fun a h1 h2 => gw.fn a (g1.fn a h1 h2) (Same.some g1.ex h2)⟩ hD2 hDi hDh rr
  | some d =>
    obtain ⟨go, yld⟩ := w1 d e
    have hlt := (List.getElem?_eq_some_iff.mp e).1
    have hmem : d ∈ ds := List.mem_of_getElem? e
    have htake : ds.take (i + 1) = ds.take i ++ [d] := by rw [List.take_add_one, e]; rfl
    refine .inr ⟨go, fun H3 => ∃ T3 vs3, T3.h = H3 ∧ Gs T1 T3 ∧ Same T1.h T3.h ∧ Fr X.K T3 σ ρ ∧ T3.i D0 = none ∧ T3.h D0 = some (.lst vs3) ∧ RpAll X.K (T3.at l') vs3 (((ds.take (i + 1)).filter Tst).map f),
      fun H3 ⟨T3, vs3, h⟩ => ⟨ds.length - (i + 1), by omega, rfl, by omega, T3, vs3, h⟩, fun x H' yv => ?_⟩
    obtain ⟨T3, rfl, g3, r3⟩ := yld x H' yv
    have F3 := F2.grow g3
    refine hg d hmem T3 (L2.wipe σ own) x _ (F3.wipeL own) r3 fun σ4 hw F4 => ⟨by rw [hw, hww], ?_⟩
    refine ht d hmem T3 σ4 _ F4 fun T5 g5 => ?_
    have g35 := g3.trans g5
    cases ev : Tst d with
    | false =>
      refine iteF ⟨T5, vs, rfl, gw.trans g35.s, sh.trans g35.ex, F2.grow g35, g35.fi D0 hDi (by rw [hDh]; intro z; cases z), g35.ex _ _ hDh, ?_⟩
      rw [htake, List.filter_append, List.filter_cons_of_neg (by rw [ev]; exact Bool.false_ne_true), List.filter_nil, List.append_nil]
      exact rr.mono (g35.at l')
    | true =>
      refine iteT (he d hmem ev T5 σ4 _ (F4.grow g5) fun v T6 g6 r6 => ?_)
      have g36 := g35.trans g6
      have hDi6 := g36.fi D0 hDi (by rw [hDh]; intro z; cases z)
      have hDh6 := g36.ex _ _ hDh
      have nz : (((ds.take i).filter Tst).map f).length ≤ i := by
        rw [List.length_map]
        exact Nat.le_trans (List.length_filter_le _ _) (by rw [List.length_take]; omega)
      refine ⟨vs, hDh6, by rw [rr.length]; exact small_lt (by omega), T6.put D0 (.lst (vs ++ [v])), vs ++ [v], rfl, (gw.trans g36.s).trans (Gs.put g36.ok hDi6), ?_, ?_, hDi6, upd_same, ?_⟩
      · exact same_into (sh.trans g36.ex) hD
      · refine (F2.grow g36).put hDi6 (F1.fresh hD)
      · rw [htake, List.filter_append, List.filter_cons_of_pos ev, List.filter_nil, List.map_append]
        have z := (rr.mono (g36.at l')).append (.cons r6 .nil)
        cases l' with
        | full => cases hl'
        | imm => exact z
        | frs => exact z
/-- the block's names: one, bound to the item -/
theorem jgb_name {Y : Cx} (n : Nat) (hN : Y.N.Nodup) (hl : l ≠ .full := by decide) (hi : Y.N[n]? = some x := by rfl) (hx : Loc Y.env.scope x := by first | exact Or.inl rfl | exact Or.inr rfl) (hf : Y.fn x = true ∨ Y.env.scope.names.lookup x = some .local := by first | exact Or.inr rfl | exact Or.inl rfl) :
    JGb Y (.Name x p) l d [n] ρ (ρ.set n (some (.v l d))) := fun T σ v Q F r q pins s u I rv => (pg_name (i := n) hN hi hx hf).run pins s σ T.h v u Q I rv (q _ (by
      show (σ.set n (some v)).set n none = σ.set n none
      rw [List.set_set]) (F.set hl r))
theorem jgb_pair {Y : Cx} (n m : Nat) {px py : Pos} {k1 : Nat} (hN : Y.N.Nodup) (hl : l ≠ .full := by decide) (hi : Y.N[n]? = some x := by rfl) (hj : Y.N[m]? = some y := by rfl) (hx : Loc Y.env.scope x := by first | exact Or.inl rfl | exact Or.inr rfl) (hy : Loc Y.env.scope y := by first | exact Or.inl rfl | exact Or.inr rfl)
    (hf : Y.fn x = true ∨ Y.env.scope.names.lookup x = some .local := by first | exact Or.inr rfl | exact Or.inl rfl) (hf2 : Y.fn y = true ∨ Y.env.scope.names.lookup y = some .local := by first | exact Or.inr rfl | exact Or.inl rfl) (hc : Y.calm = true := by rfl)
    (hs1 : (assignEach [.Name x px, .Name y py] Y.env).map (·.2) = assign (.Name x px) Y.env :: (assignEach [.Name y py] Y.env).map (·.2) := by rfl) (hs2 : (assignEach [.Name y py] Y.env).map (·.2) = assign (.Name y py) Y.env :: (assignEach [] Y.env).map (·.2) := by rfl)
    (hn : (assignEach [.Name x px, .Name y py] Y.env).length = 2 := by rfl) (hst : (assignEach [.Name x px, .Name y py] Y.env).findIdx? (·.1) = none := by rfl) :
    JGb Y (.Tuple [.Name x px, .Name y py] k1 p) l (.tup [d1, d2]) [n, m] ρ ((ρ.set n (some (.v l d1))).set m (some (.v l d2))) := fun T σ v Q F r q pins s u I rv => by
  cases r with
  | tup h rr =>
    have h := SqT.of (K := Y.K) h
    cases rr with
    | cons r1 rr =>
      cases rr with
      | cons r2 rr =>
        cases rr
        refine (pg_tup hc (pgs_cons (pg_name (i := n) hN hi hx hf) (pgs_cons (pg_name (i := m) hN hj hy hf2) pgs_nil hs2) hs1) hn hst).run pins s σ T.h _ u Q I rv
          ⟨_, _, rfl, seqT F.ok.full h, rfl, _, _, rfl, _, _, rfl, rfl, q _ ?_ ((F.set hl r1).set hl r2)⟩
        show (((σ.set n _).set m _).set m none).set n none = (σ.set m none).set n none
        rw [List.set_set]
        by_cases e : n = m
        · subst e; simp only [List.set_set]
        · rw [List.set_comm _ _ e, List.set_set]
theorem jo_lc {own : List (Str × Nat)} {l' : Lv} {Tst : D → Bool} {f : D → D} {ρd : D → PEnv} (hi : JI X tg iter l ρ ds)
    (hg : ∀ d, d ∈ ds → ∀ s H C cl fp, JGb (Blk X s H scope C cl fp) tg l d (own.map (·.2)) (wipeL ρ (own.map (·.2))) (ρd d))
    (ht : ∀ d, d ∈ ds → ∀ s H C cl fp, JTs (Blk X s H scope C cl fp) ifs (ρd d) (Tst d))
    (he : ∀ d, d ∈ ds → Tst d = true → ∀ s H C cl fp, JE (Blk X s H scope C cl fp) l' elt (ρd d) (f d)) (hN : X.N.Nodup) (ok : BlkOk X.N X.env.scope scope own) (hz : ds.length ≤ 100000) (hl' : Lv.le l' .imm = true := by rfl) (hc : X.calm = true := by rfl)
    (hs : ∀ x, foldedSetIterable iter X.env x = pure x := by exact fs_ns rfl) : JO X l' (.ListComp elt [⟨tg, iter, ifs, 0⟩] scope pos) ρ ((ds.filter Tst).map f) :=
  JO.of (pe_lc (own := own) (g := fun v σ H Q => ∀ s H0 C cl fp, wG (Blk X s H0 scope C cl fp) tg v σ H Q) (tt := fun σ H Q => ∀ s H0 C cl fp, wTs (Blk X s H0 scope C cl fp) ifs σ H Q) (te := fun σ H Q => ∀ s H0 C cl fp, wE (Blk X s H0 scope C cl fp) elt σ H Q) hc hN pi_w ok
      (fun s H C cl fp => ⟨fun pins s' σ H' v u Q I r h => h s H C cl fp pins s' u I r⟩) (fun s H C cl fp => ⟨fun pins s' σ H' Q I h => h s H C cl fp pins s' I⟩) (fun s H C cl fp => ⟨fun pins s' σ H' Q I h => h s H C cl fp pins s' I⟩) hs)
    (lc_run hl' hi (fun d hd T σ v Q F r q s H C cl fp => hg d hd s H C cl fp T σ v Q F r q) (fun d hd T σ Q F q s H C cl fp => ht d hd s H C cl fp T σ Q F q) (fun d hd ht' T σ Q F q s H C cl fp => he d hd ht' s H C cl fp T σ Q F q) hz)
theorem joi_of {f : D → Int} (h : JO X l e ρ (ds.map fun d => .int (f d))) : JOI X e ρ (ds.map f) := fun T σ Q F q => h T σ Q F fun a vs T' g h0 hi hh r => by
  have e : vs = (ds.map f).map V.int := by
    rw [show (ds.map fun d => D.int (f d)) = (ds.map f).map D.int by rw [List.map_map]; rfl] at r
    exact r.of_il
  subst e
  exact q a T' g h0 hi hh
/-- over ints, one name; the items ints -/
theorem joi_lcI {x : Str} {n : Nat} {Tst : Int → Bool} {f : Int → Int} (hi : JI X tg iter .frs ρ (ns.map D.int))
    (hg : ∀ k s H C cl fp, JGb (Blk X s H scope C cl fp) tg .frs (.int k) [n] (wipeE ρ n) ((wipeE ρ n).set n (some (.v .frs (.int k)))))
    (ht : ∀ k, k ∈ ns → ∀ s H C cl fp, JTs (Blk X s H scope C cl fp) ifs ((wipeE ρ n).set n (some (.v .frs (.int k)))) (Tst k))
    (he : ∀ k, k ∈ ns → Tst k = true → ∀ s H C cl fp, JE (Blk X s H scope C cl fp) .frs elt ((wipeE ρ n).set n (some (.v .frs (.int k)))) (.int (f k))) (hN : X.N.Nodup) (ok : BlkOk X.N X.env.scope scope [(x, n)]) (hz : ns.length ≤ 100000) (hc : X.calm = true := by rfl)
    (hs : ∀ x, foldedSetIterable iter X.env x = pure x := by exact fs_ns rfl) : JOI X (.ListComp elt [⟨tg, iter, ifs, 0⟩] scope pos) ρ ((ns.filter Tst).map f) := by
  have unI : ∀ d, d ∈ ns.map D.int → ∃ k, k ∈ ns ∧ d = .int k := fun d h => by
    obtain ⟨k, hk, e⟩ := List.mem_map.mp h
    exact ⟨k, hk, e.symm⟩
  let toI : D → Int := fun d => match d with | .int k => k | _ => 0
  have z := jo_lc (pos := pos) (own := [(x, n)]) (l' := .frs) (Tst := fun d => Tst (toI d)) (f := fun d => .int (f (toI d))) (ρd := fun d => (wipeE ρ n).set n (some (.v .frs d))) (elt := elt) (ifs := ifs) (scope := scope) hi
    (fun d hd s H C cl fp => by obtain ⟨k, hk, rfl⟩ := unI d hd; exact hg k s H C cl fp)
    (fun d hd s H C cl fp => by obtain ⟨k, hk, rfl⟩ := unI d hd; exact ht k hk s H C cl fp)
    (fun d hd e s H C cl fp => by obtain ⟨k, hk, rfl⟩ := unI d hd; exact he k hk e s H C cl fp) hN ok (by rw [List.length_map]; exact hz) rfl hc hs
  have e : (((ns.map D.int).filter fun d => Tst (toI d)).map fun d => f (toI d)) = (ns.filter Tst).map f := by
    rw [List.filter_map, List.map_map]
    rfl
  rw [← e]
  exact joi_of z
/-- .. the items of any kind -/
theorem jo_lcI {x : Str} {n : Nat} {l' : Lv} {Tst : Int → Bool} {f : Int → D} (hi : JI X tg iter .frs ρ (ns.map D.int))
    (hg : ∀ k s H C cl fp, JGb (Blk X s H scope C cl fp) tg .frs (.int k) [n] (wipeE ρ n) ((wipeE ρ n).set n (some (.v .frs (.int k)))))
    (ht : ∀ k, k ∈ ns → ∀ s H C cl fp, JTs (Blk X s H scope C cl fp) ifs ((wipeE ρ n).set n (some (.v .frs (.int k)))) (Tst k))
    (he : ∀ k, k ∈ ns → Tst k = true → ∀ s H C cl fp, JE (Blk X s H scope C cl fp) l' elt ((wipeE ρ n).set n (some (.v .frs (.int k)))) (f k)) (hN : X.N.Nodup) (ok : BlkOk X.N X.env.scope scope [(x, n)]) (hz : ns.length ≤ 100000) (hl' : Lv.le l' .imm = true := by rfl) (hc : X.calm = true := by rfl)
    (hs : ∀ x, foldedSetIterable iter X.env x = pure x := by exact fs_ns rfl) : JO X l' (.ListComp elt [⟨tg, iter, ifs, 0⟩] scope pos) ρ ((ns.filter Tst).map f) := by
  have unI : ∀ d, d ∈ ns.map D.int → ∃ k, k ∈ ns ∧ d = .int k := fun d h => by
    obtain ⟨k, hk, e⟩ := List.mem_map.mp h
    exact ⟨k, hk, e.symm⟩
  let toI : D → Int := fun d => match d with | .int k => k | _ => 0
  have z := jo_lc (pos := pos) (own := [(x, n)]) (l' := l') (Tst := fun d => Tst (toI d)) (f := fun d => f (toI d)) (ρd := fun d => (wipeE ρ n).set n (some (.v .frs d))) (elt := elt) (ifs := ifs) (scope := scope) hi
    (fun d hd s H C cl fp => by obtain ⟨k, hk, rfl⟩ := unI d hd; exact hg k s H C cl fp)
    (fun d hd s H C cl fp => by obtain ⟨k, hk, rfl⟩ := unI d hd; exact ht k hk s H C cl fp)
    (fun d hd e s H C cl fp => by obtain ⟨k, hk, rfl⟩ := unI d hd; exact he k hk e s H C cl fp) hN ok (by rw [List.length_map]; exact hz) hl' hc hs
  have e : (((ns.map D.int).filter fun d => Tst (toI d)).map fun d => f (toI d)) = (ns.filter Tst).map f := by
    rw [List.filter_map, List.map_map]
    rfl
  rw [← e]
  exact z
/-- y = [..] -/
theorem js_setLcAny (m : Nat) {own : List (Str × Nat)} {l' : Lv} {Tst : D → Bool} {f : D → D} {ρd : D → PEnv} {py : Pos} {spos : Pos} (hi : JI X tg iter l ρ ds)
    (hg : ∀ d, d ∈ ds → ∀ s H C cl fp, JGb (Blk X s H scope C cl fp) tg l d (own.map (·.2)) (wipeL ρ (own.map (·.2))) (ρd d))
    (ht : ∀ d, d ∈ ds → ∀ s H C cl fp, JTs (Blk X s H scope C cl fp) ifs (ρd d) (Tst d))
    (he : ∀ d, d ∈ ds → Tst d = true → ∀ s H C cl fp, JE (Blk X s H scope C cl fp) l' elt (ρd d) (f d)) (hN : X.N.Nodup) (ok : BlkOk X.N X.env.scope scope own) (hz : ds.length ≤ 100000)
    (hdone : ∀ (T : W3) (σ : L2.St) a vs (T0 : W3), Fr X.K T0 σ ρ → Grow T0 T → T0.h a = none → T.i a = none → T.h a = some (.lst vs) → RpAll X.K (T.at l') vs ((ds.filter Tst).map f) → ∃ T' ρ', T'.h = T.h ∧ Gw T0 T' ∧ Fr X.K T' (σ.set m (some (.ref a))) ρ' ∧ P.nx ρ')
    (hy : X.N[m]? = some y := by rfl) (hyl : X.env.scope.names.lookup y = some .local := by rfl) (hsw : swapsWith (.ListComp elt [⟨tg, iter, ifs, 0⟩] scope pos) (some (.Name y py)) spos.line X.env = pure true := by exact sw_true rfl rfl rfl (by decide +kernel))
    (hl' : Lv.le l' .imm = true := by rfl) (hc : X.calm = true := by rfl) (hs : ∀ x, foldedSetIterable iter X.env x = pure x := by exact fs_ns rfl) : JS X (.Assign [.Name y py] (.ListComp elt [⟨tg, iter, ifs, 0⟩] scope pos) spos) P ρ :=
  JS.of (ps_setLc (i := m) (own := own) (g := fun v σ H Q => ∀ s H0 C cl fp, wG (Blk X s H0 scope C cl fp) tg v σ H Q) (tt := fun σ H Q => ∀ s H0 C cl fp, wTs (Blk X s H0 scope C cl fp) ifs σ H Q) (te := fun σ H Q => ∀ s H0 C cl fp, wE (Blk X s H0 scope C cl fp) elt σ H Q) hc hN hy hyl hsw pi_w ok
      (fun s H C cl fp => ⟨fun pins s' σ H' v u Q I r h => h s H C cl fp pins s' u I r⟩) (fun s H C cl fp => ⟨fun pins s' σ H' Q I h => h s H C cl fp pins s' I⟩) (fun s H C cl fp => ⟨fun pins s' σ H' Q I h => h s H C cl fp pins s' I⟩) hs)
    fun T σ D F mm => lc_run (Q := fun x H1 => gName m x σ H1 D.nx) hl' hi (fun d hd T σ v Q F r q s H C cl fp => hg d hd s H C cl fp T σ v Q F r q) (fun d hd T σ Q F q s H C cl fp => ht d hd s H C cl fp T σ Q F q) (fun d hd ht' T σ Q F q s H C cl fp => he d hd ht' s H C cl fp T σ Q F q) hz T σ F
      fun a vs T' g h0 hi' hh r => by
        obtain ⟨T2, ρ', e, g2, F2, n2⟩ := hdone T' σ a vs T F g h0 hi' hh r
        show D.nx (σ.set m (some (.ref a))) T'.h
        rw [← e]
        exact mm.nx ρ' _ T2 g2 F2 n2
end
end Lf

set_option Elab.async false
set_option linter.all false
set_option maxRecDepth 100000
set_option maxHeartbeats 2000000
set_option autoImplicit false
/-- the items that a slice with a step picks -/
def Lf.stepL {α : Type} (xs : List α) (lo hi st : Option Int) : List α :=
  (PySem.sliceRange (PySem.sliceBounds lo hi st xs.length).1 (PySem.sliceBounds lo hi st xs.length).2.1 (PySem.sliceBounds lo hi st xs.length).2.2).filterMap (xs[·]?)
theorem Lf.stepL_map {α β : Type} (f : α → β) (xs : List α) (lo hi st : Option Int) : Lf.stepL (xs.map f) lo hi st = (Lf.stepL xs lo hi st).map f := by
  unfold Lf.stepL
  rw [List.length_map, List.map_filterMap]
  congr 1
  funext i
  rw [List.getElem?_map]
namespace L2
open PySem PySem.Spec PyProof.Rows
theorem Vals.pick {xs : List V} {us : List Value} (r : Vals xs us) : ∀ ix : List Nat, Vals (ix.filterMap (xs[·]?)) (ix.filterMap (us[·]?))
  | [] => .nil
  | i :: t => by
    have ih := Vals.pick r t
    cases e : xs[i]? with
    | none =>
      rw [List.filterMap_cons_none e, List.filterMap_cons_none (r.none_of e)]
      exact ih
    | some x =>
      obtain ⟨u, e2, rx⟩ := r.get e
      rw [List.filterMap_cons_some e, List.filterMap_cons_some e2]
      exact .cons rx ih
def tStepL (K : PySem.W.Frag) (te : TE) (lo : Option Int) (st : Int) : TE := fun σ H Q => te σ H fun x H1 => ∃ a xs, x = .ref a ∧ SqL K H1 a xs ∧ (Lf.stepL xs lo none (some st)).length ≤ sizeLine ∧ ∀ p, H1 p = none → Q (.ref p) (upd H1 p (.lst (Lf.stepL xs lo none (some st))))
section
variable {X : Cx}
theorem pe_stepL {e : Expr} {te : TE} {lo : Option Expr} {ol : Option Int} {k : Nat} {st : Int} {p1 p3 pos : Pos} (he : PE X e te) (hlo : PO X lo fun _ H Q => Q ol H) (h0 : st ≠ 0) : PE X (.Subscript e (.Slice lo none (some (.Constant (.int st) k p1)) p3) pos) (tStepL X.K te ol st) := by
  refine ⟨fun pins s σ H Q I h => ?_⟩
  refine Subscript_ (thn (he.run pins s σ H _ I h) fun v s1 ⟨x, H1, I1, r1, q1⟩ => ?_)
  obtain ⟨a, xs, ex, hx, hzz, q⟩ := q1
  subst ex
  cases r1
  have hst : PO X (some (.Constant (.int st) k p1)) (tPart (tC (.int st))) := po_some pe_int
  refine wpAny_Slice (thn (hlo.run pins s1 σ H1 (fun o H2 => o = ol ∧ H2 = H1) I1 ⟨rfl, rfl⟩) fun vl s2 ⟨l, H2, I2, pl, el, e2⟩ => ?_)
  subst el e2
  refine thn (po_none.run pins s2 σ H2 (fun o H3 => o = none ∧ H3 = H2) I2 ⟨rfl, rfl⟩) fun vu s3 ⟨u, H3, I3, pu, eu, e3⟩ => ?_
  subst eu e3
  refine thn (hst.run pins s3 σ H3 (fun o H4 => o = some st ∧ H4 = H3) I3 ⟨st, rfl, rfl, rfl⟩) fun vs s4 ⟨o, H4, I4, ps, eo, e4⟩ => ?_
  subst eo e4
  have I5 : Inv X pins σ H4 { s4 with heap := s4.heap.push { cls := .type "slice", data := .fields #[vl, vu, vs] } } := I4.kept (t' := s4.toks) fun b ob q => Heap.get?_push_of_some _ q
  obtain ⟨its, r, ht, hz⟩ := I5.list hx
  have hlen := r.length
  show wpAny (model X.prog X.w) X.A (subscriptTail e (.Slice lo none (some (.Constant (.int st) k p1)) p3) (.ref a) (.ref s4.heap.objs.size)) (EP X pins σ Q) X.xe { s4 with heap := s4.heap.push { cls := .type "slice", data := .fields #[vl, vu, vs] } }
  refine tail_any (ops := [.ref a, .ref s4.heap.objs.size]) ht.isList.typeIs (PySem.slot_list_getitem.lookup) ?_ (by with_unfolding_all rfl)
  refine wpAny_getItem_list_slice ht.isList (Heap.IsSliceOf.new _ vl vu vs) pl pu ps (by intro z; exact h0 (Option.some.inj z)) ?_ (by rw [List.size_toArray]; omega)
  have ep : slicePick its.toArray l none (some st) = (Lf.stepL its l none (some st)).toArray := by
    unfold slicePick Lf.stepL
    simp
  rw [ep]
  have rv : Vals (Lf.stepL xs l none (some st)) (Lf.stepL its l none (some st)) := by
    unfold Lf.stepL
    rw [hlen]
    exact r.pick _
  refine ⟨.ref _, _, I5.laid (t' := s4.toks) (o := .lst (Lf.stepL xs l none (some st))) (fun b ob q => Heap.get?_push_of_some _ q) (Nat.le_refl _) ?_, rfl, q _ (I5.hok.fresh (Nat.le_refl _))⟩
  exact ⟨hzz, _, 0, rv, Heap.get?_push_size _ rfl⟩
end
end L2
namespace Lf
open PySem L2
section
variable {X : Cx} {e a b c : Expr} {es : List Expr} {ρ ρ1 : PEnv} {d d1 d2 d3 : D} {l la lb lc : Lv} {pos p p2 : Pos} {i j k : Int} {ns ms : List Int} {ds fs : List D} {kt : Nat} {x y z : Str} {st : Stmt} {sts : List Stmt} {P : PEnds}
theorem stepL_len {α : Type} (xs : List α) (lo : Option Int) {st : Int} (h : 0 < st) : (stepL xs lo none (some st)).length ≤ xs.length := by
  unfold stepL
  refine Nat.le_trans (List.length_filterMap_le _ _) ?_
  refine PySem.sliceRange_length_le _ _ _ _ (fun _ => ?_) (fun z => absurd h z)
  have hs : (some st).getD 1 > 0 := h
  unfold PySem.sliceBounds
  simp only [hs, if_true]
  cases lo with
  | none => simp
  | some i => simp only []; omega
/-- xs[::k], xs[i::k] -/
theorem joi_step {k : Nat} {s : Int} {p1 p3 : Pos} (ha : JE X la a ρ (.il ns)) (hs : 0 < s := by decide) (hz : ns.length ≤ 100000) : JOI X (.Subscript a (.Slice none none (some (.Constant (.int s) k p1)) p3) pos) ρ (stepL ns none none (some s)) :=
  JOI.of (pe_stepL pe_w po_none (by omega)) fun T σ Q F q => ha T σ _ F fun v T1 g1 r1 => by
    have r1' := r1.mono g1.ok.full
    cases r1' with
    | il h1 =>
      have h1 := SqL.of (K := X.K) h1
      refine ⟨_, _, rfl, h1, ?_, fun p hp => ?_⟩
      · rw [stepL_map, List.length_map]
        exact small_of (Nat.le_trans (stepL_len ns none hs) hz)
      · rw [stepL_map]
        exact q p (T1.put p _) (g1.trans (Grow.put g1.ok hp)) (Same.free g1.ex hp) (g1.ok.i_none hp) upd_same
theorem joi_stepF {k k2 : Nat} {s f : Int} {p0 p1 p3 : Pos} (ha : JE X la a ρ (.il ns)) (hs : 0 < s := by decide) (hz : ns.length ≤ 100000) : JOI X (.Subscript a (.Slice (some (.Constant (.int f) k2 p0)) none (some (.Constant (.int s) k p1)) p3) pos) ρ (stepL ns (some f) none (some s)) :=
  JOI.of (pe_stepL (ol := some f) pe_w ⟨fun pins s' σ H Q I h => (po_some pe_int).run pins s' σ H Q I ⟨f, rfl, h⟩⟩ (by omega)) fun T σ Q F q => ha T σ _ F fun v T1 g1 r1 => by
    have r1' := r1.mono g1.ok.full
    cases r1' with
    | il h1 =>
      have h1 := SqL.of (K := X.K) h1
      refine ⟨_, _, rfl, h1, ?_, fun p hp => ?_⟩
      · rw [stepL_map, List.length_map]
        exact small_of (Nat.le_trans (stepL_len ns _ hs) hz)
      · rw [stepL_map]
        exact q p (T1.put p _) (g1.trans (Grow.put g1.ok hp)) (Same.free g1.ex hp) (g1.ok.i_none hp) upd_same

/-! ### a name is bound to a comprehension's list -/
theorem js_lcV (m : Nat) {scope : Scope} {elt tg iter : Expr} {ifs : List Expr} {own : List (Str × Nat)} {l' : Lv} {Tst : D → Bool} {f : D → D} {ρd : D → PEnv} {py : Pos} {spos : Pos} (hi : JI X tg iter l ρ ds)
    (hg : ∀ d, d ∈ ds → ∀ s H C cl fp, JGb (Blk X s H scope C cl fp) tg l d (own.map (·.2)) (wipeL ρ (own.map (·.2))) (ρd d))
    (ht : ∀ d, d ∈ ds → ∀ s H C cl fp, JTs (Blk X s H scope C cl fp) ifs (ρd d) (Tst d))
    (he : ∀ d, d ∈ ds → Tst d = true → ∀ s H C cl fp, JE (Blk X s H scope C cl fp) l' elt (ρd d) (f d)) (h : P.nx (ρ.set m (some (.v l' (.lst ((ds.filter Tst).map f)))))) (hN : X.N.Nodup) (ok : BlkOk X.N X.env.scope scope own) (hz : ds.length ≤ 100000)
    (hy : X.N[m]? = some y := by rfl) (hyl : X.env.scope.names.lookup y = some .local := by rfl) (hsw : swapsWith (.ListComp elt [⟨tg, iter, ifs, 0⟩] scope pos) (some (.Name y py)) spos.line X.env = pure true := by exact sw_true rfl rfl rfl (by decide +kernel))
    (hl' : Lv.le l' .imm = true := by rfl) (hc : X.calm = true := by rfl) (hs : ∀ x, foldedSetIterable iter X.env x = pure x := by exact fs_ns rfl) : JS X (.Assign [.Name y py] (.ListComp elt [⟨tg, iter, ifs, 0⟩] scope pos) spos) P ρ :=
  js_setLcAny m hi hg ht he hN ok hz (fun T σ a vs T0 F g h0 hi hh r => by
    cases l' with
    | full => cases hl'
    | imm =>
      have G := g.fixI (o := .lst vs) h0 hi hh
      exact ⟨T.fixI a (.lst vs), _, rfl, G.w, (F.grow G).set (l := .imm) (by decide) (.lst (show upd T.i a _ a = _ from upd_same) (r.mono (same_new hi))), h⟩
    | frs =>
      have G := g.fix (o := .lst vs) h0 hi hh
      exact ⟨T.fix a (.lst vs), _, rfl, G.w, (F.grow G).set (l := .frs) (by decide) (.lst (show upd T.n a _ a = _ from upd_same) (r.mono (same_new (g.ok.n_none' hi)))), h⟩) hy hyl hsw hl' hc hs
/-- .. of ints -/
theorem js_lcVI (m : Nat) {scope : Scope} {elt tg iter : Expr} {ifs : List Expr} {own : List (Str × Nat)} {Tst : D → Bool} {f : D → Int} {ρd : D → PEnv} {py : Pos} {spos : Pos} (hi : JI X tg iter l ρ ds)
    (hg : ∀ d, d ∈ ds → ∀ s H C cl fp, JGb (Blk X s H scope C cl fp) tg l d (own.map (·.2)) (wipeL ρ (own.map (·.2))) (ρd d))
    (ht : ∀ d, d ∈ ds → ∀ s H C cl fp, JTs (Blk X s H scope C cl fp) ifs (ρd d) (Tst d))
    (he : ∀ d, d ∈ ds → Tst d = true → ∀ s H C cl fp, JE (Blk X s H scope C cl fp) .frs elt (ρd d) (.int (f d))) (h : P.nx (ρ.set m (some (.v .frs (.il ((ds.filter Tst).map f)))))) (hN : X.N.Nodup) (ok : BlkOk X.N X.env.scope scope own) (hz : ds.length ≤ 100000)
    (hy : X.N[m]? = some y := by rfl) (hyl : X.env.scope.names.lookup y = some .local := by rfl) (hsw : swapsWith (.ListComp elt [⟨tg, iter, ifs, 0⟩] scope pos) (some (.Name y py)) spos.line X.env = pure true := by exact sw_true rfl rfl rfl (by decide +kernel))
    (hc : X.calm = true := by rfl) (hs : ∀ x, foldedSetIterable iter X.env x = pure x := by exact fs_ns rfl) : JS X (.Assign [.Name y py] (.ListComp elt [⟨tg, iter, ifs, 0⟩] scope pos) spos) P ρ :=
  js_setLcAny m (l' := .frs) (f := fun d => .int (f d)) hi hg ht he hN ok hz (fun T σ a vs T0 F g h0 hi hh r => by
    have G := g.fix (o := .lst vs) h0 hi hh
    have e : vs = (((ds.filter Tst).map f).map V.int) := by
      rw [show ((ds.filter Tst).map fun d => D.int (f d)) = ((ds.filter Tst).map f).map D.int by rw [List.map_map]; rfl] at r
      exact r.of_il
    refine ⟨T.fix a (.lst vs), _, rfl, G.w, (F.grow G).set (l := .frs) (by decide) (.il (show upd T.n a _ a = _ from ?_)), h⟩
    rw [upd_same, e]) hy hyl hsw rfl hc hs
/-- .. as an own list of ints -/
theorem js_lcOI (m : Nat) {scope : Scope} {elt tg iter : Expr} {ifs : List Expr} {own : List (Str × Nat)} {Tst : D → Bool} {f : D → Int} {ρd : D → PEnv} {py : Pos} {spos : Pos} (hi : JI X tg iter l ρ ds)
    (hg : ∀ d, d ∈ ds → ∀ s H C cl fp, JGb (Blk X s H scope C cl fp) tg l d (own.map (·.2)) (wipeL ρ (own.map (·.2))) (ρd d))
    (ht : ∀ d, d ∈ ds → ∀ s H C cl fp, JTs (Blk X s H scope C cl fp) ifs (ρd d) (Tst d))
    (he : ∀ d, d ∈ ds → Tst d = true → ∀ s H C cl fp, JE (Blk X s H scope C cl fp) .frs elt (ρd d) (.int (f d))) (h : P.nx (ρ.set m (some (.ownI ((ds.filter Tst).map f))))) (hN : X.N.Nodup) (ok : BlkOk X.N X.env.scope scope own) (hz : ds.length ≤ 100000)
    (hy : X.N[m]? = some y := by rfl) (hyl : X.env.scope.names.lookup y = some .local := by rfl) (hsw : swapsWith (.ListComp elt [⟨tg, iter, ifs, 0⟩] scope pos) (some (.Name y py)) spos.line X.env = pure true := by exact sw_true rfl rfl rfl (by decide +kernel))
    (hc : X.calm = true := by rfl) (hs : ∀ x, foldedSetIterable iter X.env x = pure x := by exact fs_ns rfl) : JS X (.Assign [.Name y py] (.ListComp elt [⟨tg, iter, ifs, 0⟩] scope pos) spos) P ρ :=
  js_setLcAny m (l' := .frs) (f := fun d => .int (f d)) hi hg ht he hN ok hz (fun T σ a vs T0 F g h0 hi hh r => by
    have e : vs = (((ds.filter Tst).map f).map V.int) := by
      rw [show ((ds.filter Tst).map fun d => D.int (f d)) = ((ds.filter Tst).map f).map D.int by rw [List.map_map]; rfl] at r
      exact r.of_il
    refine ⟨T, _, rfl, g.w, (F.grow g).setOwn (e := .ownI _) ⟨a, rfl, by rw [hh, e], hi⟩ (F.fresh h0), h⟩) hy hyl hsw rfl hc hs

def restr (A : List Addr) (H : Hp) : Hp := fun b => if b ∈ A then H b else none
theorem restr_same {A : List Addr} {H : Hp} : Same (restr A H) H := fun b o h => by
  unfold restr at h
  split at h
  · exact h
  · cases h
theorem restr_in {A : List Addr} {H : Hp} {b : Addr} (m : b ∈ A) : restr A H b = H b := if_pos m
theorem restr_dom {A : List Addr} {H : Hp} {b : Addr} (h : restr A H b ≠ none) : b ∈ A := by
  unfold restr at h
  split at h
  · assumption
  · exact absurd rfl h
theorem uni_right {A B : Hp} {b : Addr} (h : A b = none) : uni A B b = B b := by unfold uni; rw [h]
/-! ### defs -/
def startE (n : Nat) (ds : List D) : PEnv := ds.map (fun d => some (.v .imm d)) ++ List.replicate (n - ds.length) none
theorem RpAll.get? {K : PySem.W.Frag} {H : Hp} {vs : List V} {ds : List D} (r : RpAll K H vs ds) (i : Nat) : (vs[i]? = none ∧ ds[i]? = none) ∨ ∃ v d, vs[i]? = some v ∧ ds[i]? = some d ∧ Rp K H v d := by
  cases e : ds[i]? with
  | none =>
    refine .inl ⟨?_, rfl⟩
    have := List.getElem?_eq_none_iff.mp e
    exact List.getElem?_eq_none_iff.mpr (by rw [r.length]; exact this)
  | some d =>
    obtain ⟨v, h1, h2⟩ := r.get e
    exact .inr ⟨v, d, h1, rfl, h2⟩
theorem fr_start {K : PySem.W.Frag} {H : Hp} {N : List Str} {vs : List V} {ds : List D} (r : RpAll K H vs ds) (hn : ds.length ≤ N.length) : Fr K ⟨H, fun _ => none, H⟩ (L2.start N vs) (startE N.length ds) := by
  have ok : Ok ⟨H, fun _ => none, H⟩ := ⟨fun a o h => (nomatch h), Same.refl _⟩
  have get : ∀ {i : Nat} {e : E}, (startE N.length ds)[i]? = some (some e) → ∃ d, ds[i]? = some d ∧ e = .v .imm d := fun {i e} h => by
    unfold startE at h
    by_cases hi : i < ds.length
    · rw [List.getElem?_append_left (by rw [List.length_map]; exact hi), List.getElem?_map, List.getElem?_eq_getElem hi] at h
      cases h
      exact ⟨_, List.getElem?_eq_getElem hi, rfl⟩
    · rw [List.getElem?_append_right (by rw [List.length_map]; omega), List.getElem?_replicate] at h
      split at h <;> cases h
  refine ⟨ok, ?_, fun i e h => ?_, fun i j e e' a h1 h2 o1 => ?_, fun i j e e' a h1 h2 o1 => ?_, fun i j e e' a h1 h2 o1 => ?_⟩
  · unfold L2.start startE
    rw [List.length_append, List.length_append, List.length_map, List.length_map, List.length_replicate, List.length_replicate, r.length]
  · obtain ⟨d, hd, rfl⟩ := get h
    obtain ⟨v, h1, h2⟩ := r.get hd
    refine ⟨v, ?_, by decide, h2⟩
    unfold L2.start
    have hi : i < vs.length := (List.getElem?_eq_some_iff.mp h1).1
    rw [List.getElem?_append_left (by rw [List.length_map]; exact hi), List.getElem?_map, h1]
    rfl
  · obtain ⟨d, hd, rfl⟩ := get h1
    cases o1
  · obtain ⟨d, hd, rfl⟩ := get h1
    cases o1
  · obtain ⟨d, hd, rfl⟩ := get h1
    cases o1
/-- THE RULE for a def: what its body comes to -/
theorem fn_ok {P : Program} {w : World} {K : PySem.W.Frag} {mg : Str → Option Value} {base : Heap} {x qual : Str} {st : Stmt} {f : Addr} {fd : FuncData} {N ps : List Str} {k : Nat} {pre : List D → Prop} {G : List D → D} (F : Fun K x qual st f fd) (S : FnScope N ps (defScope st))
    (hpre : ∀ ds, pre ds → ds.length = ps.length)
    (body : ∀ (cdv : Value) (A : Around) (outer : List Env) (s : Shared) (H : Hp) (E : XK), Room k (A.deeper (PyProof.Rows.envOfC qual (defScope st) s.heap.objs.size f cdv)) → ∀ ds, pre ds →
      JSs (cxOf CX0 P w K mg base N qual (defScope st) f cdv A outer s H E).nox (defBody st) { nx := fun _ => G ds = .non, rt := fun d => d = G ds, ru := fun d => d = G ds } (startE N.length ds)) :
    FnOk P w K mg base CX0 (k + 1) f fd ps (spF K pre G) := by
  refine F.ok S (fun vs H Q E ⟨ds, r, hp, _⟩ => by rw [r.length]; exact hpre ds hp) fun cdv A outer s H vs Q E hr ⟨ds, r, hp, q⟩ => ?_
  have hlen : ds.length ≤ N.length := by
    rw [hpre ds hp]
    have := congrArg List.length S.pre
    rw [List.length_take] at this
    omega
  refine ⟨_, pss_w, body cdv A outer s H E hr ds hp ⟨H, fun _ => none, H⟩ _ _ (fr_start r hlen) ⟨fun ρ σ T' g F' e => ?_, fun d v T' g e rv => ?_, fun ρ σ T' g F' z => z.elim, fun ρ σ T' g F' z => z.elim, fun g v T' gw eg rg fr nd => ?_, fun _ _ _ _ _ _ _ z => z.elim⟩⟩
  · refine q .non T'.h T'.n (g.xi.trans g.ok.ih) (g.ok.ni.trans g.ok.ih) (fun a h => ?_) (by rw [e]; exact .non)
    cases z : H a with
    | none => rfl
    | some o => exact absurd (g.fn a rfl (by show H a ≠ none; rw [z]; intro y; cases y) (by show H a ≠ none; rw [z]; intro y; cases y)) h
  · subst e
    refine q v T'.h T'.n (g.xi.trans g.ok.ih) (g.ok.ni.trans g.ok.ih) (fun a h => ?_) rv
    cases z : H a with
    | none => rfl
    | some o => exact absurd (g.fn a rfl (by show H a ≠ none; rw [z]; intro y; cases y) (by show H a ≠ none; rw [z]; intro y; cases y)) h
  · refine q v T'.h (uni T'.n (restr (adds g) T'.h)) (gw.xi.trans gw.ok.ih) (uni_to (gw.ok.ni.trans gw.ok.ih) restr_same) (fun a h => ?_) ?_
    · cases z : H a with
      | none => rfl
      | some o =>
        have z1 : T'.i a = some o := gw.xi a o z
        cases e : T'.n a with
        | some u => exact absurd (gw.fn a rfl (by show H a ≠ none; rw [z]; intro y; cases y) (by show H a ≠ none; rw [z]; intro y; cases y)) (by rw [e]; intro y; cases y)
        | none =>
          rw [uni_right e] at h
          rw [fr a (restr_dom h)] at z1
          cases z1
    · rw [← eg]
      exact rg.rp uni_l fun b mb => by rw [uni_right (gw.ok.n_none' (fr b mb)), restr_in mb]
end
end Lf

set_option Elab.async false
set_option linter.all false
set_option maxRecDepth 100000
set_option maxHeartbeats 2000000
set_option autoImplicit false
namespace Lf
open PySem L2
section
variable {X : Cx} {e a b c : Expr} {es : List Expr} {ρ ρ1 : PEnv} {d d1 d2 d3 : D} {l la lb lc : Lv} {pos p p2 : Pos} {i j k : Int} {ns ms : List Int} {ds fs : List D} {kt : Nat} {x y z : Str} {st : Stmt} {sts : List Stmt} {P : PEnds}
variable {scope : Scope} {elt tg iter : Expr} {ifs : List Expr}
theorem filter_tt {α : Type} (xs : List α) : xs.filter (fun _ => true) = xs := List.filter_eq_self.mpr fun _ _ => rfl
/-- no test -/
theorem joi_mapI {x : Str} {n : Nat} {f : Int → Int} (hi : JI X tg iter .frs ρ (ns.map D.int))
    (hg : ∀ k s H C cl fp, JGb (Blk X s H scope C cl fp) tg .frs (.int k) [n] (wipeE ρ n) ((wipeE ρ n).set n (some (.v .frs (.int k)))))
    (he : ∀ k, k ∈ ns → ∀ s H C cl fp, JE (Blk X s H scope C cl fp) .frs elt ((wipeE ρ n).set n (some (.v .frs (.int k)))) (.int (f k))) (hN : X.N.Nodup) (ok : BlkOk X.N X.env.scope scope [(x, n)]) (hz : ns.length ≤ 100000) (hc : X.calm = true := by rfl)
    (hs : ∀ x, foldedSetIterable iter X.env x = pure x := by exact fs_ns rfl) : JOI X (.ListComp elt [⟨tg, iter, [], 0⟩] scope pos) ρ (ns.map f) := by
  have h := joi_lcI (pos := pos) (x := x) (n := n) (Tst := fun _ => true) (f := f) hi hg (fun _ _ _ _ _ _ _ => jts_nil) (fun k hk _ => he k hk) hN ok hz hc hs
  rw [filter_tt] at h
  exact h
theorem jo_mapI {x : Str} {n : Nat} {l' : Lv} {f : Int → D} (hi : JI X tg iter .frs ρ (ns.map D.int))
    (hg : ∀ k s H C cl fp, JGb (Blk X s H scope C cl fp) tg .frs (.int k) [n] (wipeE ρ n) ((wipeE ρ n).set n (some (.v .frs (.int k)))))
    (he : ∀ k, k ∈ ns → ∀ s H C cl fp, JE (Blk X s H scope C cl fp) l' elt ((wipeE ρ n).set n (some (.v .frs (.int k)))) (f k)) (hN : X.N.Nodup) (ok : BlkOk X.N X.env.scope scope [(x, n)]) (hz : ns.length ≤ 100000) (hl' : Lv.le l' .imm = true := by rfl) (hc : X.calm = true := by rfl)
    (hs : ∀ x, foldedSetIterable iter X.env x = pure x := by exact fs_ns rfl) : JO X l' (.ListComp elt [⟨tg, iter, [], 0⟩] scope pos) ρ (ns.map f) := by
  have h := jo_lcI (pos := pos) (x := x) (n := n) (Tst := fun _ => true) (f := f) hi hg (fun _ _ _ _ _ _ _ => jts_nil) (fun k hk _ => he k hk) hN ok hz hl' hc hs
  rw [filter_tt] at h
  exact h
/-- truths -/
theorem jo_mapB {x : Str} {n : Nat} {f : Int → Bool} (hi : JI X tg iter .frs ρ (ns.map D.int))
    (hg : ∀ k s H C cl fp, JGb (Blk X s H scope C cl fp) tg .frs (.int k) [n] (wipeE ρ n) ((wipeE ρ n).set n (some (.v .frs (.int k)))))
    (he : ∀ k, k ∈ ns → ∀ s H C cl fp, JE (Blk X s H scope C cl fp) .frs elt ((wipeE ρ n).set n (some (.v .frs (.int k)))) (.bl (f k))) (hN : X.N.Nodup) (ok : BlkOk X.N X.env.scope scope [(x, n)]) (hz : ns.length ≤ 100000) (hc : X.calm = true := by rfl)
    (hs : ∀ x, foldedSetIterable iter X.env x = pure x := by exact fs_ns rfl) : JO X .frs (.ListComp elt [⟨tg, iter, [], 0⟩] scope pos) ρ ((ns.map f).map D.bl) := by
  have h := jo_mapI (pos := pos) (x := x) (n := n) (f := fun k => .bl (f k)) hi hg he hN ok hz rfl hc hs
  rw [List.map_map]
  exact h
/-- over values of any kind, a name, no test -/
theorem jo_map {x : Str} {n : Nat} {l' : Lv} {f : D → D} (hi : JI X tg iter l ρ ds)
    (hg : ∀ d, d ∈ ds → ∀ s H C cl fp, JGb (Blk X s H scope C cl fp) tg l d [n] (wipeE ρ n) ((wipeE ρ n).set n (some (.v l d))))
    (he : ∀ d, d ∈ ds → ∀ s H C cl fp, JE (Blk X s H scope C cl fp) l' elt ((wipeE ρ n).set n (some (.v l d))) (f d)) (hN : X.N.Nodup) (ok : BlkOk X.N X.env.scope scope [(x, n)]) (hz : ds.length ≤ 100000) (hl' : Lv.le l' .imm = true := by rfl) (hc : X.calm = true := by rfl)
    (hs : ∀ x, foldedSetIterable iter X.env x = pure x := by exact fs_ns rfl) : JO X l' (.ListComp elt [⟨tg, iter, [], 0⟩] scope pos) ρ (ds.map f) := by
  have h := jo_lc (pos := pos) (own := [(x, n)]) (Tst := fun _ => true) (f := f) (ρd := fun d => (wipeE ρ n).set n (some (.v l d))) hi hg (fun _ _ _ _ _ _ _ => jts_nil) (fun d hd _ => he d hd) hN ok hz hl' hc hs
  rw [filter_tt] at h
  exact h
theorem jo_mapDB {x : Str} {n : Nat} {f : D → Bool} (hi : JI X tg iter l ρ ds)
    (hg : ∀ d, d ∈ ds → ∀ s H C cl fp, JGb (Blk X s H scope C cl fp) tg l d [n] (wipeE ρ n) ((wipeE ρ n).set n (some (.v l d))))
    (he : ∀ d, d ∈ ds → ∀ s H C cl fp, JE (Blk X s H scope C cl fp) .frs elt ((wipeE ρ n).set n (some (.v l d))) (.bl (f d))) (hN : X.N.Nodup) (ok : BlkOk X.N X.env.scope scope [(x, n)]) (hz : ds.length ≤ 100000) (hc : X.calm = true := by rfl)
    (hs : ∀ x, foldedSetIterable iter X.env x = pure x := by exact fs_ns rfl) : JO X .frs (.ListComp elt [⟨tg, iter, [], 0⟩] scope pos) ρ ((ds.map f).map D.bl) := by
  have h := jo_map (pos := pos) (x := x) (n := n) (f := fun d => .bl (f d)) hi hg he hN ok hz rfl hc hs
  rw [List.map_map]
  exact h
/-- an expression's value told otherwise -/
theorem JE.eq (h : JE X l e ρ d) (q : d = d1) : JE X l e ρ d1 := by rw [← q]; exact h
theorem JOI.eq (h : JOI X e ρ ns) (q : ns = ms) : JOI X e ρ ms := by rw [← q]; exact h
theorem JI.eq (h : JI X tg iter l ρ ds) (q : ds = fs) : JI X tg iter l ρ fs := by rw [← q]; exact h
theorem JT.eq {v u : Bool} (h : JT X e ρ v) (q : v = u) : JT X e ρ u := by rw [← q]; exact h

/-! ### dicts of one's own, keys ints -/
def lookP {κ : Type} [DecidableEq κ] (kvs : List (κ × D)) (k : κ) : Option D := (kvs.find? fun kv => decide (kv.1 = k)).map (·.2)
def putP {κ : Type} [DecidableEq κ] (kvs : List (κ × D)) (k : κ) (d : D) : List (κ × D) :=
  if (kvs.any fun kv => decide (kv.1 = k)) = true then kvs.map (fun kv => if kv.1 = k then (kv.1, d) else kv) else kvs ++ [(k, d)]
theorem RpK.look {κ κ' : Type} [DecidableEq κ] [DecidableEq κ'] {f : κ → κ'} (inj : ∀ a b, f a = f b → a = b) {K : PySem.W.Frag} {H : Hp} (k : κ) : ∀ {vs : List (κ' × V)} {ds : List (κ × D)}, RpK f K H vs ds →
    (valV vs (f k) = none ∧ lookP ds k = none) ∨ ∃ v d, valV vs (f k) = some v ∧ lookP ds k = some d ∧ Rp K H v d
  | _, _, .nil => .inl ⟨rfl, rfl⟩
  | _, _, .cons (k := k') (v := v) (d := d) (vs := vs) (ds := ds) h r => by
    by_cases e : k' = k
    · subst e
      exact .inr ⟨v, d, by simp [valV], by simp [lookP], h⟩
    · have e' : ¬ f k' = f k := fun z => e (inj _ _ z)
      have h1 : valV ((f k', v) :: vs) (f k) = valV vs (f k) := valV_neg e'
      have h2 : lookP ((k', d) :: ds) k = lookP ds k := by simp [lookP, List.find?_cons, e]
      rw [h1, h2]
      exact RpK.look inj k r
theorem RpK.any {κ κ' : Type} [DecidableEq κ] [DecidableEq κ'] {f : κ → κ'} (inj : ∀ a b, f a = f b → a = b) {K : PySem.W.Frag} {H : Hp} (k : κ) : ∀ {vs : List (κ' × V)} {ds : List (κ × D)}, RpK f K H vs ds → (vs.any fun kv => decide (kv.1 = f k)) = (ds.any fun kv => decide (kv.1 = k))
  | _, _, .nil => rfl
  | _, _, .cons (k := k') h r => by
    rw [List.any_cons, List.any_cons, RpK.any inj k r]
    by_cases e : k' = k
    · subst e; simp
    · have e' : ¬ f k' = f k := fun z => e (inj _ _ z)
      simp [e, e']
theorem RpK.map {κ κ' : Type} [DecidableEq κ] [DecidableEq κ'] {f : κ → κ'} (inj : ∀ a b, f a = f b → a = b) {K : PySem.W.Frag} {H : Hp} {v : V} {d : D} (q : Rp K H v d) (k : κ) : ∀ {vs : List (κ' × V)} {ds : List (κ × D)}, RpK f K H vs ds →
    RpK f K H (vs.map fun kv => if kv.1 = f k then (kv.1, v) else kv) (ds.map fun kv => if kv.1 = k then (kv.1, d) else kv)
  | _, _, .nil => .nil
  | _, _, .cons (k := k') h r => by
    rw [List.map_cons, List.map_cons]
    by_cases e : k' = k
    · subst e
      simp only [if_true]
      exact .cons q (RpK.map inj q k' r)
    · have e' : ¬ f k' = f k := fun z => e (inj _ _ z)
      simp only [e, e', if_false]
      exact .cons h (RpK.map inj q k r)
theorem RpK.snoc {κ κ' : Type} {f : κ → κ'} {K : PySem.W.Frag} {H : Hp} {v : V} {d : D} (q : Rp K H v d) (k : κ) : ∀ {vs : List (κ' × V)} {ds : List (κ × D)}, RpK f K H vs ds → RpK f K H (vs ++ [(f k, v)]) (ds ++ [(k, d)])
  | _, _, .nil => .cons q .nil
  | _, _, .cons h r => .cons h (RpK.snoc q k r)
theorem RpK.put {κ κ' : Type} [DecidableEq κ] [DecidableEq κ'] {f : κ → κ'} (inj : ∀ a b, f a = f b → a = b) {K : PySem.W.Frag} {H : Hp} {v : V} {d : D} (q : Rp K H v d) (k : κ) {vs : List (κ' × V)} {ds : List (κ × D)} (r : RpK f K H vs ds) : RpK f K H (putK vs (f k) v) (putP ds k d) := by
  unfold putK putP
  rw [RpK.any inj k r]
  split
  · exact RpK.map inj q k r
  · exact RpK.snoc q k r
theorem inj_I : ∀ a b : Int, keyI a = keyI b → a = b := fun a b h => Sum.inl.inj h
theorem inj_T : ∀ a b : List Int, keyT a = keyT b → a = b := fun a b h => List.map_inj_right (fun x y z => Sum.inl.inj z) |>.mp h
variable {kvs : List (Int × D)} {kvt : List (List Int × D)} {n : Nat}
/-- x = {} -/
theorem js_setDI (n : Nat) {p' : Pos} (h : P.nx (ρ.set n (some (.dI l [])))) (hl : l ≠ .full := by decide) (hN : X.N.Nodup) (hi : X.N[n]? = some x := by rfl) (hx : Loc X.env.scope x := by first | exact Or.inl rfl | exact Or.inr rfl)
    (hs : swapsWith (.Dict [] [] p) (some (.Name x p')) pos.line X.env = pure false := by exact sw_ns rfl) (hf : X.fn x = true ∨ X.env.scope.names.lookup x = some .local := by exact Or.inl rfl) : JS X (.Assign [.Name x p'] (.Dict [] [] p) pos) P ρ :=
  JS.of (ps_set (i := n) hN hi hx pe_dnewK hs hf) fun T σ D F m => fun a ha => m.nx _ _ (T.put a (.dK [])) (Grow.put F.ok ha).w ((F.grow (Grow.put F.ok ha)).setOwn (e := .dI l []) ⟨hl, a, [], rfl, upd_same, F.ok.i_none ha, .nil⟩ (F.fresh ha)) h
theorem js_setDT (n : Nat) {p' : Pos} (h : P.nx (ρ.set n (some (.dT l [])))) (hl : l ≠ .full := by decide) (hN : X.N.Nodup) (hi : X.N[n]? = some x := by rfl) (hx : Loc X.env.scope x := by first | exact Or.inl rfl | exact Or.inr rfl)
    (hs : swapsWith (.Dict [] [] p) (some (.Name x p')) pos.line X.env = pure false := by exact sw_ns rfl) (hf : X.fn x = true ∨ X.env.scope.names.lookup x = some .local := by exact Or.inl rfl) : JS X (.Assign [.Name x p'] (.Dict [] [] p) pos) P ρ :=
  JS.of (ps_set (i := n) hN hi hx pe_dnewT hs hf) fun T σ D F m => fun a ha => m.nx _ _ (T.put a (.dT [])) (Grow.put F.ok ha).w ((F.grow (Grow.put F.ok ha)).setOwn (e := .dT l []) ⟨hl, a, [], rfl, upd_same, F.ok.i_none ha, .nil⟩ (F.fresh ha)) h
/-- d[k] = v -/
theorem js_putI (n : Nat) {pt : Pos} (hu : X.A.units + 1 < cLine) (hr : ρ[n]? = some (some (.dI l kvs))) (he : JE X la e ρ d) (hb : JE X lb b ρ (.int i)) (h : P.nx (ρ.set n (some (.dI l (putP kvs i d))))) (hz : kvs.length < 100000) (hle : Lv.le la l = true := by rfl) (hN : X.N[n]? = some x := by rfl)
    (hv : Vis X.env.scope x := by first | exact Or.inl rfl | exact Or.inr (Or.inl rfl) | exact Or.inr (Or.inr rfl)) (hd : (x == ("__debug__" : Str)) = false := by decide) (hcd : (x == ("__classdict__" : Str)) = false := by decide)
    (hs : swapsWith e (some (.Subscript (.Name x p) b pt)) pos.line X.env = pure false := by exact sw_ns rfl) : JS X (.Assign [.Subscript (.Name x p) b pt] e pos) P ρ :=
  JS.of (ps_dput hu (pe_var hN hv hd hcd) pe_w pe_w hs) fun T σ D F m => he T σ _ F fun w T1 g1 r1 => by
    obtain ⟨v, h1, hl, a, ws, rfl, h2, h3, rr⟩ := F.val n _ hr
    refine ⟨_, h1, hb T1 σ _ (F.grow g1) fun u T2 g2 r2 => ?_⟩
    cases r2
    have g := g1.trans g2
    have h2' := g.ex _ _ h2
    have h3' := g.fi a h3 (by rw [h2]; intro z; cases z)
    refine ⟨a, _, rfl, DPut.k (k := Sum.inl i) h2' (by rw [rr.length]; exact small_lt hz), ?_⟩
    refine m.nx _ σ (T2.put a (.dK (putK ws (Sum.inl i) w))) (g.w.trans (Gw.put g.ok h3')) ((F.grow g).chg (e1 := .dI l (putP kvs i d)) hr rfl h1 rfl ⟨hl, a, _, rfl, upd_same, h3', ?_⟩) h
    have z := RpK.put inj_I ((r1.mono (g1.ok.le hle)).mono (g2.at l)) i (rr.mono (g.at l))
    cases l with
    | full => exact absurd rfl hl
    | imm => exact z
    | frs => exact z
theorem js_putT (n : Nat) {pt : Pos} {ks : List Int} (hu : X.A.units + 1 < cLine) (hr : ρ[n]? = some (some (.dT l kvt))) (he : JE X la e ρ d) (hb : JE X lb b ρ (.tup (ks.map D.int))) (h : P.nx (ρ.set n (some (.dT l (putP kvt ks d))))) (hz : kvt.length < 100000) (hle : Lv.le la l = true := by rfl) (hN : X.N[n]? = some x := by rfl)
    (hv : Vis X.env.scope x := by first | exact Or.inl rfl | exact Or.inr (Or.inl rfl) | exact Or.inr (Or.inr rfl)) (hd : (x == ("__debug__" : Str)) = false := by decide) (hcd : (x == ("__classdict__" : Str)) = false := by decide)
    (hs : swapsWith e (some (.Subscript (.Name x p) b pt)) pos.line X.env = pure false := by exact sw_ns rfl) : JS X (.Assign [.Subscript (.Name x p) b pt] e pos) P ρ :=
  JS.of (ps_dput hu (pe_var hN hv hd hcd) pe_w pe_w hs) fun T σ D F m => he T σ _ F fun w T1 g1 r1 => by
    obtain ⟨v, h1, hl, a, ws, rfl, h2, h3, rr⟩ := F.val n _ hr
    refine ⟨_, h1, hb T1 σ _ (F.grow g1) fun u T2 g2 r2 => ?_⟩
    cases r2 with
    | tup hq ra =>
      have g := g1.trans g2
      have h2' := g.ex _ _ h2
      have h3' := g.fi a h3 (by rw [h2]; intro z; cases z)
      have e1 := ra.of_il
      subst e1
      have ht := g2.ok.full (a := lb) _ _ hq
      refine ⟨a, _, rfl, DPut.t (k := ks.map Sum.inl) h2' (by rw [List.map_map]; exact ht) (by rw [rr.length]; exact small_lt hz), ?_⟩
      refine m.nx _ σ (T2.put a (.dT (putK ws (keyT ks) w))) (g.w.trans (Gw.put g.ok h3')) ((F.grow g).chg (e1 := .dT l (putP kvt ks d)) hr rfl h1 rfl ⟨hl, a, _, rfl, upd_same, h3', ?_⟩) h
      have z := RpK.put inj_T ((r1.mono (g1.ok.le hle)).mono (g2.at l)) ks (rr.mono (g.at l))
      cases l with
      | full => exact absurd rfl hl
      | imm => exact z
      | frs => exact z
/-- d.get(k, e) -/
theorem je_get (n : Nat) {apos cpos : Pos} (hu : X.A.units + 1 < cLine) (hr : ρ[n]? = some (some (.dI l kvs))) (hb : JE X lb b ρ (.int i)) (he : JE X la e ρ d) (hle : Lv.le la l = true := by rfl) (hN : X.N[n]? = some x := by rfl)
    (hv : Vis X.env.scope x := by first | exact Or.inl rfl | exact Or.inr (Or.inl rfl) | exact Or.inr (Or.inr rfl)) (hd : (x == ("__debug__" : Str)) = false := by decide) (hcd : (x == ("__classdict__" : Str)) = false := by decide)
    (m : M2 X (.Name x p) "get" apos b e cpos := by exact ⟨rfl, rfl, rfl, rfl⟩) : JE X l (.Call (.Attribute (.Name x p) "get" apos) [b, e] [] cpos) ρ ((lookP kvs i).getD d) :=
  JE.of (pe_dget2 hu (pe_var hN hv hd hcd) pe_w pe_w m) fun T σ Q F q => by
    obtain ⟨v, h1, hl, a, ws, rfl, h2, h3, rr⟩ := F.val n _ hr
    refine ⟨_, h1, a, rfl, .inl ⟨ws, .inl h2⟩, hb T σ _ F fun u T1 g1 r1 => he T1 σ _ (F.grow g1) fun w T2 g2 r2 => ?_⟩
    cases r1
    have g := g1.trans g2
    have h2' := g.ex _ _ h2
    refine ⟨_, DGet.k (k := Sum.inl i) h2', ?_⟩
    rcases RpK.look inj_I i (rr.mono (g.at l)) with ⟨z1, z2⟩ | ⟨v, d', z1, z2, z3⟩
    · have z1' : valV ws (Sum.inl i) = none := z1
      rw [z1']
      rw [z2] at q
      exact q _ T2 g (r2.mono (g2.ok.le hle))
    · have z1' : valV ws (Sum.inl i) = some v := z1
      rw [z1']
      rw [z2] at q
      exact q _ T2 g z3
/-- k in d -/
theorem jc_dinI (n : Nat) (hu : X.A.units + 1 < cLine) (hb : JE X lb b ρ (.int i)) (hr : ρ[n]? = some (some (.dI l kvs))) (hN : X.N[n]? = some x := by rfl)
    (hv : Vis X.env.scope x := by first | exact Or.inl rfl | exact Or.inr (Or.inl rfl) | exact Or.inr (Or.inr rfl)) (hd : (x == ("__debug__" : Str)) = false := by decide) (hcd : (x == ("__classdict__" : Str)) = false := by decide) : JC X .In b (.Name x p) ρ (lookP kvs i).isSome :=
  fun T σ Q F q pins s I => (pc_din hu pe_w (pe_var hN hv hd hcd)).run pins s σ T.h Q I (hb T σ _ F fun u T1 g1 r1 => by
    obtain ⟨v, h1, hl, a, ws, rfl, h2, h3, rr⟩ := F.val n _ hr
    cases r1
    refine ⟨_, h1, a, _, rfl, DGet.k (k := Sum.inl i) (g1.ex _ _ h2), ?_⟩
    rcases RpK.look inj_I i rr with ⟨z1, z2⟩ | ⟨v, d', z1, z2, z3⟩
    · have z1' : valV ws (Sum.inl i) = none := z1
      rw [z1']
      rw [z2] at q
      exact q T1 g1
    · have z1' : valV ws (Sum.inl i) = some v := z1
      rw [z1']
      rw [z2] at q
      exact q T1 g1)
theorem je_lenDI (n : Nat) (hm : X.mg "len" = none) (hr : ρ[n]? = some (some (.dI l kvs))) (hN : X.N[n]? = some x := by rfl)
    (hv : Vis X.env.scope x := by first | exact Or.inl rfl | exact Or.inr (Or.inl rfl) | exact Or.inr (Or.inr rfl)) (hd : (x == ("__debug__" : Str)) = false := by decide) (hcd : (x == ("__classdict__" : Str)) = false := by decide)
    (hg : Gl X "len" := by rfl) {pl pn : Pos} (he : starEach [.Name x pn] X.env = (false, eval (.Name x pn) X.env) :: starEach [] X.env := by exact star_c rfl) (hpl : (backTo pos (starEach [] X.env)).any (·.1) = false := by exact back_ns rfl) : JE X .frs (.Call (.Name "len" p) [.Name x pn] [] pos) ρ (.int kvs.length) :=
  JE.of (pe_callB call_lenD hg hm PySem.boot_len (pa_cons (pe_var hN hv hd hcd) pa_nil he) (by decide) (by decide) he hpl) fun T σ Q F q => by
    obtain ⟨v, h1, hl, a, ws, rfl, h2, h3, rr⟩ := F.val n _ hr
    refine ⟨_, h1, a, ws, rfl, h2, ?_⟩
    rw [rr.length]
    exact q _ T (Grow.refl F.ok) (.int _)
/-! ### dicts of ints to ints; enumerate from k -/
def dII (m : List (Int × Int)) : List (Int × D) := m.map fun p => (p.1, .int p.2)
def lookI (m : List (Int × Int)) (k : Int) : Option Int := (m.find? fun p => decide (p.1 = k)).map (·.2)
def putI (m : List (Int × Int)) (k v : Int) : List (Int × Int) := if (m.any fun p => decide (p.1 = k)) = true then m.map (fun p => if p.1 = k then (p.1, v) else p) else m ++ [(k, v)]
theorem lookP_dII (m : List (Int × Int)) (k : Int) : lookP (dII m) k = (lookI m k).map D.int := by
  unfold lookP dII lookI
  rw [List.find?_map, Option.map_map, Option.map_map]
  rfl
theorem putP_dII (m : List (Int × Int)) (k v : Int) : putP (dII m) k (.int v) = dII (putI m k v) := by
  unfold putP dII putI
  rw [List.any_map]
  show (if (m.any fun p => decide (p.1 = k)) = true then _ else _) = _
  split
  · rw [List.map_map, List.map_map]
    congr 1
    funext p
    show (if p.1 = k then (p.1, D.int v) else (p.1, D.int p.2)) = _
    by_cases h : p.1 = k
    · simp [h]
    · simp [h]
  · rw [List.map_append]
    rfl
theorem lookI_put (m : List (Int × Int)) (k v j : Int) : lookI (putI m k v) j = if j = k then some v else lookI m j := by
  unfold putI
  split
  · rename_i h
    have key : ∀ m : List (Int × Int), lookI (m.map fun p => if p.1 = k then (p.1, v) else p) j = if j = k then (lookI m k).map (fun _ => v) else lookI m j := by
      intro m
      induction m with
      | nil => unfold lookI; simp
      | cons p r ih =>
        unfold lookI at ih ⊢
        rw [List.map_cons]
        by_cases e : p.1 = k
        · by_cases e2 : j = k
          · subst e2; simp [List.find?_cons, e]
          · have e3 : ¬ k = j := fun z => e2 z.symm
            have e4 : ¬ p.1 = j := fun z => e2 (z.symm.trans e)
            simp only [e, if_true, List.find?_cons, e3, e4, e2, decide_false, if_false, Bool.false_eq_true] at ih ⊢
            simpa [e] using ih
        · by_cases e2 : p.1 = j
          · have e3 : ¬ j = k := fun z => e (e2.trans z)
            simp [e, e2, List.find?_cons, e3]
          · simp only [e, if_false, List.find?_cons, e2, decide_false, Bool.false_eq_true] at ih ⊢
            exact ih
    rw [key]
    by_cases e : j = k
    · simp only [e, if_true]
      unfold lookI
      have : (m.find? fun p => decide (p.1 = k)).isSome = true := by
        rw [List.find?_isSome]
        obtain ⟨p, hp, hq⟩ := List.any_eq_true.mp h
        exact ⟨p, hp, hq⟩
      obtain ⟨q, hq⟩ := Option.isSome_iff_exists.mp this
      rw [hq]
      rfl
    · simp only [e, if_false]
  · rename_i h
    unfold lookI
    rw [List.find?_append]
    by_cases e : j = k
    · subst e
      have : m.find? (fun p => decide (p.1 = j)) = none := by
        rw [List.find?_eq_none]
        intro p hp hq
        exact h (List.any_eq_true.mpr ⟨p, hp, hq⟩)
      rw [this]
      simp
    · have e3 : ¬ k = j := fun z => e z.symm
      cases q : m.find? (fun p => decide (p.1 = j)) with
      | none => simp [e, e3, List.find?_cons]
      | some p => simp [e]
theorem putI_length (m : List (Int × Int)) (k v : Int) : (putI m k v).length ≤ m.length + 1 := by
  unfold putI
  split
  · rw [List.length_map]; omega
  · rw [List.length_append]; simp
def enumF (k : Nat) : List Int → List D
  | [] => []
  | n :: r => .tup [.int (k : Int), .int n] :: enumF (k + 1) r
theorem enumF_get : ∀ (ns : List Int) (k i : Nat), (enumF k ns)[i]? = (ns[i]?).map fun n => .tup [.int ((k + i : Nat) : Int), .int n]
  | [], k, i => by simp [enumF]
  | n :: r, k, 0 => by simp [enumF]
  | n :: r, k, i + 1 => by
    show (enumF (k + 1) r)[i]? = _
    rw [enumF_get r (k + 1) i]
    simp only [List.getElem?_cons_succ]
    rw [show k + 1 + i = k + (i + 1) by omega]
theorem enumI_eq (ns : List Int) : enumI ns = enumF 0 ns := by
  apply List.ext_getElem?
  intro i
  rw [enumF_get]
  cases e : ns[i]? with
  | none => exact List.getElem?_eq_none (by rw [enumI_length]; exact List.getElem?_eq_none_iff.mp e)
  | some n =>
    rw [enumI_get e]
    simp
end
end Lf

set_option Elab.async false
set_option linter.all false
set_option maxRecDepth 100000
set_option maxHeartbeats 2000000
set_option autoImplicit false
namespace Lf
open PySem L2
section
variable {X : Cx} {e a b c : Expr} {es : List Expr} {ρ ρ1 : PEnv} {d d1 d2 d3 : D} {l la lb lc : Lv} {pos p p2 : Pos} {i j k : Int} {ns ms : List Int} {ds fs : List D} {kt : Nat} {x y z : Str} {st : Stmt} {sts : List Stmt} {P : PEnds}
/-- x, y = [..], {} -/
theorem js_parOD (n m : Nat) {px py pt pt2 pd : Pos} {k1 k2 : Nat} (ha : JOI X a ρ ns) (h : P.nx ((ρ.set n (some (.ownI ns))).set m (some (.dI l [])))) (hl : l ≠ .full := by decide) (hN : X.N.Nodup) (hnm : n ≠ m := by decide) (hi : X.N[n]? = some x := by rfl) (hj : X.N[m]? = some y := by rfl)
    (hx : X.env.scope.names.lookup x = some .local := by rfl) (hy : X.env.scope.names.lookup y = some .local := by rfl) (hc : X.calm = true := by rfl)
    (hw : swappedStores [.Tuple [.Name x px, .Name y py] k1 pt] (.Tuple [a, .Dict [] [] pd] k2 pt2) X.env = pure (some [x, y]) := by rfl)
    (hs : swapsWithSole [.Tuple [.Name x px, .Name y py] k1 pt] (.Tuple [a, .Dict [] [] pd] k2 pt2) pos.line X.env = pure false := by exact sws_ns rfl)
    (hs1 : starEach [a, .Dict [] [] pd] X.env = (false, eval a X.env) :: starEach [.Dict [] [] pd] X.env := by exact star_c rfl) (hs2 : starEach [.Dict [] [] pd] X.env = (false, eval (.Dict [] [] pd) X.env) :: starEach [] X.env := by exact star_c rfl) : JS X (.Assign [.Tuple [.Name x px, .Name y py] k1 pt] (.Tuple [a, .Dict [] [] pd] k2 pt2) pos) P ρ :=
  JS.of (ps_par (i := n) (j := m) hc hN hi hj hnm hx hy (pa_cons pe_w (pa_cons pe_dnewK pa_nil hs2) hs1) hw hs) fun T σ D F mm => ha T σ _ F fun a T1 g1 h0 h1 h2 => fun q hq => by
    refine ⟨_, _, rfl, mm.nx _ _ (T1.put q (.dK [])) (g1.w.trans (Grow.put g1.ok hq).w) ?_ h⟩
    have F1 := (F.grow g1).setOwn (i := n) (e := .ownI ns) ⟨a, rfl, h2, h1⟩ (F.fresh h0)
    exact (F1.grow (Grow.put g1.ok hq)).setOwn (i := m) (e := .dI l []) ⟨hl, q, [], rfl, upd_same, g1.ok.i_none hq, .nil⟩ (F1.fresh hq)
/-- x, y = [..], [..] of ints, both own -/
theorem js_parOO (n m : Nat) {px py pt pt2 : Pos} {k1 k2 : Nat} (ha : JOI X a ρ ns) (hb : JOI X b ρ ms) (h : P.nx ((ρ.set n (some (.ownI ns))).set m (some (.ownI ms)))) (hN : X.N.Nodup) (hnm : n ≠ m := by decide) (hi : X.N[n]? = some x := by rfl) (hj : X.N[m]? = some y := by rfl)
    (hx : X.env.scope.names.lookup x = some .local := by rfl) (hy : X.env.scope.names.lookup y = some .local := by rfl) (hc : X.calm = true := by rfl)
    (hw : swappedStores [.Tuple [.Name x px, .Name y py] k1 pt] (.Tuple [a, b] k2 pt2) X.env = pure (some [x, y]) := by rfl)
    (hs : swapsWithSole [.Tuple [.Name x px, .Name y py] k1 pt] (.Tuple [a, b] k2 pt2) pos.line X.env = pure false := by exact sws_ns rfl)
    (hs1 : starEach [a, b] X.env = (false, eval a X.env) :: starEach [b] X.env := by exact star_c rfl) (hs2 : starEach [b] X.env = (false, eval b X.env) :: starEach [] X.env := by exact star_c rfl) : JS X (.Assign [.Tuple [.Name x px, .Name y py] k1 pt] (.Tuple [a, b] k2 pt2) pos) P ρ :=
  JS.of (ps_par (i := n) (j := m) hc hN hi hj hnm hx hy (pa_cons pe_w (pa_cons pe_w pa_nil hs2) hs1) hw hs) fun T σ D F mm => ha T σ _ F fun a T1 g1 h0 h1 h2 => hb T1 σ _ (F.grow g1) fun q T2 g2 h3 h4 h5 => by
    refine ⟨_, _, rfl, mm.nx _ _ T2 (g1.w.trans g2.w) ?_ h⟩
    have F1 := (F.grow g1).setOwn (i := n) (e := .ownI ns) ⟨a, rfl, h2, h1⟩ (F.fresh h0)
    exact (F1.grow g2).setOwn (i := m) (e := .ownI ms) ⟨q, rfl, h5, h4⟩ (F1.fresh h3)
/-- an own list of ints from a call -/
theorem joi_call {m n : Nat} {pre : List D → Prop} {G : List D → D} (C : Callee X.prog X.w X.K X.mg X.base m x pre G) (hr : Room n X.A) (ha : JA X .full (e :: es) ρ ds) (hp : pre ds) (hq : G ds = .il ns := by rfl) (hk : m ≤ n := by decide) (hg : Gl X x := by rfl) (hdb : (x == ("__debug__" : Str)) = false := by decide)
    (he : starEach (e :: es) X.env = (false, eval e X.env) :: starEach es X.env := by exact star_c rfl) (hpl : (backTo pos (starEach es X.env)).any (·.1) = false := by exact back_ns rfl) : JOI X (.Call (.Name x p) (e :: es) [] pos) ρ ns := by
  obtain ⟨f, fd, ps, F, hm, hkp, hb⟩ := C.ex
  refine JOI.of (pe_call F (hr.mono hk) hg hm hkp hb .nil pass0 pa_w hdb he hpl) fun T σ Q Fm q => ha T σ _ Fm fun vs T1 g1 r1 => ?_
  refine ⟨ds, by rw [List.append_nil]; exact r1, hp, fun v H' Hn h1 h2 dj rv => ?_⟩
  rw [hq] at rv
  cases rv with
  | il h =>
    have hnew := dj _ (by rw [h]; intro z; cases z)
    have G : Grow T ⟨T1.i, T1.n, H'⟩ := g1.trans ⟨⟨g1.ok.ni, g1.ok.ih.trans h1⟩, h1, Same.refl _, Same.refl _, fun _ z _ => z, fun _ z _ => z⟩
    exact q _ ⟨T1.i, T1.n, H'⟩ G (Same.free g1.ex hnew) (g1.ok.i_none hnew) (h2 _ _ h)

/-! ### the script, read -/
theorem je_sumS (hm : X.mg "sum" = none) (ha : JE X la e ρ (.scr ns)) (hc : X.calm = true := by rfl) (hg : Gl X "sum" := by rfl) (he : starEach [e] X.env = (false, eval e X.env) :: starEach [] X.env := by exact star_c rfl) (hpl : (backTo pos (starEach [] X.env)).any (·.1) = false := by exact back_ns rfl) :
    JE X .frs (.Call (.Name "sum" p) [e] [] pos) ρ (.int ns.sum) :=
  je_callB (cr_sum hc) hm (by decide +kernel) (ja_cons ha ja_nil (Lv.le_full _) he) (fun T vs Q o r q => by
    cases r with
    | cons r1 r2 =>
      cases r2
      cases r1 with
      | scr h => exact ⟨_, _, rfl, h, q _ T (Grow.refl o) (.int _)⟩) hg (by decide) (by decide) he hpl
theorem je_lenS (hm : X.mg "len" = none) (ha : JE X la e ρ (.scr ns)) (hg : Gl X "len" := by rfl) (he : starEach [e] X.env = (false, eval e X.env) :: starEach [] X.env := by exact star_c rfl) (hpl : (backTo pos (starEach [] X.env)).any (·.1) = false := by exact back_ns rfl) :
    JE X .frs (.Call (.Name "len" p) [e] [] pos) ρ (.int ns.length) :=
  je_callB call_len_seq hm PySem.boot_len (ja_cons ha ja_nil (Lv.le_full _) he) (fun T vs Q o r q => by
    cases r with
    | cons r1 r2 =>
      cases r2
      cases r1 with
      | scr h =>
        refine ⟨_, _, rfl, .inl h, ?_⟩
        rw [List.length_map]
        exact q _ T (Grow.refl o) (.int _)) hg (by decide) (by decide) he hpl
theorem ji_listS {tg : Expr} (ha : JE X la a ρ (.scr ns)) (z : Lv.le la .imm = true := by rfl) : JI X tg a .frs ρ (ns.map D.int) :=
  JI.of (pi_list pe_w) fun T σ R F q => ha T σ _ F fun v T1 g1 r1 => by
    cases r1 with
    | scr h =>
      have hi := (g1.ok.le z).seq h
      refine ⟨_, rfl, ⟨_, g1.ok.ih.seq hi⟩, q _ T1 g1 fun T' i s sn o => ⟨fun d e => ?_, fun e => ?_⟩⟩
      · have e' : ns[i]?.map D.int = some d := by rw [← List.getElem?_map]; exact e
        cases en : ns[i]? with
        | none => rw [en] at e'; cases e'
        | some n =>
          rw [en] at e'
          cases e'
          have hx : (ns.map V.int)[i]? = some (.int n) := by rw [List.getElem?_map, en]; rfl
          refine ⟨⟨_, _, (s.trans o.ih).seq hi, hx⟩, fun x H' y => ?_⟩
          obtain ⟨rfl, y⟩ := y
          have ex := y _ ((s.trans o.ih).seq hi)
          rw [hx] at ex
          cases ex
          exact ⟨T', rfl, Grow.refl o, .int n⟩
      · refine ⟨_, (s.trans o.ih).seq hi, ?_⟩
        have := List.getElem?_eq_none_iff.mp e
        rw [List.length_map] at this ⊢
        exact this
theorem ji_zipS {elts : List Expr} {kk : Nat} {tpos : Pos} (hm : X.mg "zip" = none) (ha : JE X la a ρ (.il ns)) (hb : JE X lb b ρ (.scr ms)) (z : Lv.le la .imm = true := by rfl) (z2 : Lv.le lb .imm = true := by rfl) (hg : Gl X "zip" := by rfl) (hs : starEach [a, b] X.env = (false, eval a X.env) :: starEach [b] X.env := by exact star_c rfl)
    (hs2 : starEach [b] X.env = (false, eval b X.env) :: starEach [] X.env := by exact star_c rfl) (hpl : (backTo pos (starEach [b] X.env)).any (·.1) = false := by exact back_ns rfl) : JI X (.Tuple elts kk tpos) (.Call (.Name "zip" p) [a, b] [] pos) .frs ρ (zipI ns ms) :=
  JI.of (pi_zip hg hm (pa_cons pe_w (pa_cons pe_w pa_nil hs2) hs) hs hpl) fun T σ R F q => ha T σ _ F fun v T1 g1 r1 => hb T1 σ _ (F.grow g1) fun u T2 g2 r2 => by
    have g := g1.trans g2
    cases r1 with
    | il h =>
      have h := SqL.of (K := X.K) h
      cases r2 with
      | scr h2 =>
        have hi := g2.xi.seq ((g1.ok.le z).seq h)
        have hi2 := (g2.ok.le z2).seq h2
        refine ⟨_, _, _, _, rfl, g2.ok.ih.seq hi, g2.ok.ih.seq hi2, q _ T2 g fun T' i s sn o => ⟨fun d e => ?_, fun e => ?_⟩⟩
        · have hlt : i < ns.length ∧ i < ms.length := by
            have := (List.getElem?_eq_some_iff.mp e).1
            unfold zipI at this
            rw [List.length_map, List.length_zip] at this
            omega
          have hq := (s.trans o.ih).seq hi
          have hq2 := (s.trans o.ih).seq hi2
          have en : ns[i]? = some ns[i] := List.getElem?_eq_getElem hlt.1
          have em : ms[i]? = some ms[i] := List.getElem?_eq_getElem hlt.2
          have hx : (ns.map V.int)[i]? = some (.int ns[i]) := by rw [List.getElem?_map, en]; rfl
          have hy : (ms.map V.int)[i]? = some (.int ms[i]) := by rw [List.getElem?_map, em]; rfl
          have ed : d = .tup [.int ns[i], .int ms[i]] := by
            unfold zipI at e
            rw [List.getElem?_map, List.getElem?_eq_getElem (by rw [List.length_zip]; omega), List.getElem_zip] at e
            cases e
            rfl
          subst ed
          refine ⟨⟨_, _, _, _, hq, hq2, hx, hy⟩, fun x H' y => ?_⟩
          obtain ⟨t, w, w2, rfl, ht, rfl, y1, y2⟩ := y
          have ex := y1 _ hq
          rw [hx] at ex
          cases ex
          have ey := y2 _ hq2
          rw [hy] at ey
          cases ey
          exact ⟨(T'.put t _).fix t _, rfl, (Grow.put o ht).fix ht (o.i_none ht) upd_same, .tup upd_same (.cons (.int _) (.cons (.int _) .nil))⟩
        · refine ⟨_, _, (s.trans o.ih).seq hi, (s.trans o.ih).seq hi2, ?_⟩
          have := List.getElem?_eq_none_iff.mp e
          unfold zipI at this
          rw [List.length_map, List.length_zip] at this
          rw [List.length_map, List.length_map]
          omega
theorem joi_stepS {k : Nat} {s : Int} {p1 p3 : Pos} (ha : JE X la a ρ (.scr ns)) (hs : 0 < s := by decide) (hz : ns.length ≤ 100000) : JOI X (.Subscript a (.Slice none none (some (.Constant (.int s) k p1)) p3) pos) ρ (stepL ns none none (some s)) :=
  JOI.of (pe_stepL pe_w po_none (by omega)) fun T σ Q F q => ha T σ _ F fun v T1 g1 r1 => by
    have r1' := r1.mono g1.ok.full
    cases r1' with
    | scr h1 =>
      refine ⟨_, _, rfl, h1, ?_, fun p hp => ?_⟩
      · rw [stepL_map, List.length_map]
        exact small_of (Nat.le_trans (stepL_len ns none hs) hz)
      · rw [stepL_map]
        exact q p (T1.put p _) (g1.trans (Grow.put g1.ok hp)) (Same.free g1.ex hp) (g1.ok.i_none hp) upd_same
theorem joi_stepFS {k k2 : Nat} {s f : Int} {p0 p1 p3 : Pos} (ha : JE X la a ρ (.scr ns)) (hs : 0 < s := by decide) (hz : ns.length ≤ 100000) : JOI X (.Subscript a (.Slice (some (.Constant (.int f) k2 p0)) none (some (.Constant (.int s) k p1)) p3) pos) ρ (stepL ns (some f) none (some s)) :=
  JOI.of (pe_stepL (ol := some f) pe_w ⟨fun pins s' σ H Q I h => (po_some pe_int).run pins s' σ H Q I ⟨f, rfl, h⟩⟩ (by omega)) fun T σ Q F q => ha T σ _ F fun v T1 g1 r1 => by
    have r1' := r1.mono g1.ok.full
    cases r1' with
    | scr h1 =>
      refine ⟨_, _, rfl, h1, ?_, fun p hp => ?_⟩
      · rw [stepL_map, List.length_map]
        exact small_of (Nat.le_trans (stepL_len ns _ hs) hz)
      · rw [stepL_map]
        exact q p (T1.put p _) (g1.trans (Grow.put g1.ok hp)) (Same.free g1.ex hp) (g1.ok.i_none hp) upd_same
variable {lo hi : Option Expr} {ol oh : Option Int}
theorem joi_cutS (ha : JE X la a ρ (.scr ns)) (hl : JP X lo ρ ol) (hh : JP X hi ρ oh) : JOI X (.Subscript a (.Slice lo hi none p2) pos) ρ (cutL ns ol oh) :=
  JOI.of (pe_slice sl_list pe_w po_w po_w) fun T σ Q F q => ha T σ _ F fun v T1 g1 r1 => hl T1 σ _ (F.grow g1) fun T2 g2 => hh T2 σ _ ((F.grow g1).grow g2) fun T3 g3 => by
    have r1' := ((r1.mono g1.ok.full).mono g2.ex).mono g3.ex
    cases r1' with
    | scr h1 =>
      have G := (g1.trans g2).trans g3
      refine ⟨_, _, rfl, h1, fun p hp => ?_⟩
      rw [cutV_ints]
      exact q p (T3.put p _) (G.trans (Grow.put G.ok hp)) (Same.free G.ex hp) (G.ok.i_none hp) upd_same
end
end Lf

set_option Elab.async false
set_option linter.all false
set_option maxRecDepth 100000
set_option maxHeartbeats 2000000
set_option autoImplicit false
namespace Lf
open PySem L2
/-! ### == of what is made of numbers, by lists and tuples -/
mutual
def lay : D → Bool
  | .non => true
  | .bl _ => true
  | .int _ => true
  | .il _ => true
  | .scr _ => true
  | .lst ds => lays ds
  | .tup ds => lays ds
  | _ => false
def lays : List D → Bool
  | [] => true
  | d :: r => lay d && lays r
end
mutual
def dep : D → Nat
  | .il _ => 2
  | .scr _ => 2
  | .lst ds => deps ds + 1
  | .tup ds => deps ds + 1
  | _ => 1
def deps : List D → Nat
  | [] => 0
  | d :: r => Nat.max (dep d) (deps r)
end
mutual
theorem lay_plain : ∀ d : D, lay d = true → plain d = true
  | .non, _ => rfl
  | .bl _, _ => rfl
  | .int _, _ => rfl
  | .il _, _ => rfl
  | .scr _, _ => rfl
  | .lst ds, h => by rw [lay] at h; rw [plain]; exact lays_plain ds h
  | .tup ds, h => by rw [lay] at h; rw [plain]; exact lays_plain ds h
  | .str _, h => by cases h
  | .obj _ _, h => by cases h
  | .ptr _, h => by cases h
theorem lays_plain : ∀ ds : List D, lays ds = true → plains ds = true
  | [], _ => rfl
  | d :: r, h => by
    rw [lays, Bool.and_eq_true] at h
    rw [plains, lay_plain d h.1, lays_plain r h.2]
    rfl
end
mutual
theorem lay_can : ∀ d : D, lay d = true → (py d).canLay0 = true
  | .non, _ => by rw [py, PyData.canLay0]
  | .bl _, _ => by rw [py, PyData.canLay0]
  | .int _, _ => by rw [py, PyData.canLay0]
  | .il ns, _ => by rw [py, PyData.canLay0]; exact canAll_ints ns
  | .scr ns, _ => by rw [py, PyData.canLay0]; exact canAll_ints ns
  | .lst ds, h => by rw [lay] at h; rw [py, PyData.canLay0]; exact lays_can ds h
  | .tup ds, h => by rw [lay] at h; rw [py, PyData.canLay0]; exact lays_can ds h
  | .str _, h => by cases h
  | .obj _ _, h => by cases h
  | .ptr _, h => by cases h
theorem lays_can : ∀ ds : List D, lays ds = true → PyData.canLayAll0 (pys ds) = true
  | [], _ => by rw [pys, PyData.canLayAll0]
  | d :: r, h => by
    rw [lays, Bool.and_eq_true] at h
    rw [pys, PyData.canLayAll0, lay_can d h.1, lays_can r h.2]
    rfl
end
mutual
theorem dep_le : ∀ d : D, (py d).depth ≤ dep d
  | .non => by rw [py, PyData.depth]; exact Nat.zero_le _
  | .bl _ => by rw [py, PyData.depth]; exact Nat.zero_le _
  | .int _ => by rw [py, PyData.depth]; exact Nat.zero_le _
  | .il ns => by rw [py, PyData.depth, dep]; have := depth_ints ns; omega
  | .scr ns => by rw [py, PyData.depth, dep]; have := depth_ints ns; omega
  | .lst ds => by rw [py, PyData.depth, dep]; have := deps_le ds; omega
  | .tup ds => by rw [py, PyData.depth, dep]; have := deps_le ds; omega
  | .str _ => by rw [py, PyData.depth]; exact Nat.zero_le _
  | .obj _ _ => by rw [py, PyData.depth]; exact Nat.zero_le _
  | .ptr _ => by rw [py, PyData.depth]; exact Nat.zero_le _
theorem deps_le : ∀ ds : List D, PyData.depthAll (pys ds) ≤ deps ds
  | [] => by rw [pys, PyData.depthAll]; exact Nat.zero_le _
  | d :: r => by
    rw [pys, PyData.depthAll, deps]
    have h1 := dep_le d
    have h2 := deps_le r
    exact Nat.max_le.mpr ⟨Nat.le_trans h1 (Nat.le_max_left _ _), Nat.le_trans h2 (Nat.le_max_right _ _)⟩
end
theorem lay_shaped {d : D} (h : lay d = true) (hd : dep d ≤ 64) : SeqAt.shaped (py d) = true := by
  unfold SeqAt.shaped
  rw [lay_can d h, Bool.true_and]
  exact decide_eq_true (Nat.le_trans (dep_le d) hd)
theorem lays_map {α : Type} {g : α → D} (h : ∀ x, lay (g x) = true) : ∀ xs : List α, lays (xs.map g) = true
  | [] => rfl
  | x :: r => by rw [List.map_cons, lays, h x, lays_map h r]; rfl
theorem lay_map {α : Type} {g : α → D} (h : ∀ x, lay (g x) = true) (xs : List α) : lay (.lst (xs.map g)) = true := by rw [lay]; exact lays_map h xs
theorem deps_map {α : Type} {g : α → D} {n : Nat} (h : ∀ x, dep (g x) ≤ n) : ∀ xs : List α, deps (xs.map g) ≤ n
  | [] => Nat.zero_le _
  | x :: r => by rw [List.map_cons, deps]; exact Nat.max_le.mpr ⟨h x, deps_map h r⟩
theorem dep_map {α : Type} {g : α → D} {n : Nat} (h : ∀ x, dep (g x) ≤ n) (xs : List α) : dep (.lst (xs.map g)) ≤ n + 1 := by rw [dep]; exact Nat.succ_le_succ (deps_map h xs)
/-- a list of lists of numbers; of pairs -/
def ils (xss : List (List Int)) : D := .lst (xss.map D.il)
def prs (ps : List (Int × Int)) : D := .lst (ps.map fun p => D.tup [.int p.1, .int p.2])
theorem lay_ils (xss : List (List Int)) : lay (ils xss) = true := lay_map (fun _ => rfl) xss
theorem lay_prs (ps : List (Int × Int)) : lay (prs ps) = true := lay_map (fun _ => rfl) ps
theorem dep_ils (xss : List (List Int)) : dep (ils xss) ≤ 64 := Nat.le_trans (dep_map (n := 2) (fun _ => Nat.le_refl _) xss) (by decide)
theorem dep_prs (ps : List (Int × Int)) : dep (prs ps) ≤ 64 := Nat.le_trans (dep_map (n := 2) (fun _ => Nat.le_refl _) ps) (by decide)
theorem eqD_refl {d : D} (h : lay d = true) : eqD d d = true := by
  unfold eqD
  exact PySem.SeqAt.eqv_refl _ (lay_can d h)
theorem eqD_lst (a b : D) (as bs : List D) : eqD (.lst (a :: as)) (.lst (b :: bs)) = (eqD a b && eqD (.lst as) (.lst bs)) := by
  unfold eqD
  rw [py, py, pys, pys, PyData.eqv, PyData.eqvAll, py, py, PyData.eqv]
theorem eqD_nil : eqD (.lst []) (.lst []) = true := by
  unfold eqD
  rw [py, pys, PyData.eqv, PyData.eqvAll]
theorem eqD_nil1 (a : D) (as : List D) : eqD (.lst (a :: as)) (.lst []) = false := by
  unfold eqD
  rw [py, py, pys, pys, PyData.eqv, PyData.eqvAll]
theorem eqD_nil2 (a : D) (as : List D) : eqD (.lst []) (.lst (a :: as)) = false := by
  unfold eqD
  rw [py, py, pys, pys, PyData.eqv, PyData.eqvAll]
theorem eqD_map {α : Type} [DecidableEq α] {g : α → D} (h : ∀ x y, eqD (g x) (g y) = decide (x = y)) : ∀ xs ys : List α, eqD (.lst (xs.map g)) (.lst (ys.map g)) = decide (xs = ys)
  | [], [] => by rw [List.map_nil, eqD_nil]; rfl
  | x :: xs, [] => by rw [List.map_cons, List.map_nil, eqD_nil1]; rfl
  | [], y :: ys => by rw [List.map_cons, List.map_nil, eqD_nil2]; rfl
  | x :: xs, y :: ys => by
    rw [List.map_cons, List.map_cons, eqD_lst, eqD_map h xs ys, h]
    by_cases e : x = y
    · subst e; simp
    · simp [e]
theorem eqD_ils (xs ys : List (List Int)) : eqD (ils xs) (ils ys) = decide (xs = ys) := eqD_map eqD_il xs ys
theorem eqD_pair (a b c d : Int) : eqD (.tup [.int a, .int b]) (.tup [.int c, .int d]) = decide ((a, b) = (c, d)) := by
  unfold eqD
  rw [py, py, pys, pys, pys, pys, pys, pys, py, py, py, py, PyData.eqv, PyData.eqvAll, PyData.eqvAll, PyData.eqvAll, PyData.eqv, PyData.eqv]
  by_cases h : a = c
  · by_cases h2 : b = d
    · subst h; subst h2; simp
    · simp [h2]
  · simp [h]
theorem eqD_prs (xs ys : List (Int × Int)) : eqD (prs xs) (prs ys) = decide (xs = ys) := eqD_map (fun x y => eqD_pair x.1 x.2 y.1 y.2) xs ys
section
variable {X : Cx} {e a b c : Expr} {es : List Expr} {ρ : PEnv} {d d1 d2 d3 : D} {l la lb lc : Lv} {pos : Pos}
theorem jc_eqG (hu : X.A.units + 64 < cLine) (ha : JE X la a ρ d1) (hb : JE X lb b ρ d2) (p1 : lay d1 = true := by rfl) (p2 : lay d2 = true := by rfl) (h1 : dep d1 ≤ 64 := by first | decide | exact of_decide_eq_true rfl) (h2 : dep d2 ≤ 64 := by first | decide | exact of_decide_eq_true rfl) : JC X .Eq a b ρ (eqD d1 d2) :=
  jc_eqD hu ha hb (lay_plain _ p1) (lay_plain _ p2) (lay_shaped p1 h1) (lay_shaped p2 h2)
theorem jc_neG (hu : X.A.units + 64 < cLine) (ha : JE X la a ρ d1) (hb : JE X lb b ρ d2) (p1 : lay d1 = true := by rfl) (p2 : lay d2 = true := by rfl) (h1 : dep d1 ≤ 64 := by first | decide | exact of_decide_eq_true rfl) (h2 : dep d2 ≤ 64 := by first | decide | exact of_decide_eq_true rfl) : JC X .NotEq a b ρ (!eqD d1 d2) :=
  jc_neD hu ha hb (lay_plain _ p1) (lay_plain _ p2) (lay_shaped p1 h1) (lay_shaped p2 h2)
end
end Lf

set_option Elab.async false
set_option linter.all false
set_option maxRecDepth 100000
set_option maxHeartbeats 2000000
set_option autoImplicit false
namespace Lf
open PySem L2
/-! ### nodes by their places -/
def root : G → D
  | .d d => d
  | .li b _ => .ptr b
  | .ls b _ => .ptr b
  | .ob b _ _ _ => .ptr b
def G.at : List Nat → G → Option G
  | [], g => some g
  | i :: p, .ls _ gs => match gs[i]? with | some g => G.at p g | none => none
  | i :: p, .ob _ _ _ gs => match gs[i]? with | some g => G.at p g | none => none
  | _ :: _, _ => none
def G.put : List Nat → G → G → G
  | [], x, _ => x
  | i :: p, x, .ls b gs => match gs[i]? with | some g => .ls b (gs.set i (G.put p x g)) | none => .ls b gs
  | i :: p, x, .ob b C fs gs => match gs[i]? with | some g => .ob b C fs (gs.set i (G.put p x g)) | none => .ob b C fs gs
  | _ :: _, _, g => g
section
variable {K : PySem.W.Frag} {Hs H : Hp}
theorem AtGs.get : ∀ {vs : List V} {gs : List G}, AtGs K Hs H vs gs → ∀ {i : Nat} {g : G}, gs[i]? = some g → ∃ v, vs[i]? = some v ∧ AtG K Hs H v g
  | _, _, .nil, i, g, e => by simp at e
  | _, _, .cons h r, 0, g, e => by
    simp at e
    subst e
    exact ⟨_, rfl, h⟩
  | _, _, .cons h r, i + 1, g, e => by
    obtain ⟨v, h1, h2⟩ := r.get (i := i) (g := g) (by simpa using e)
    exact ⟨v, by simpa using h1, h2⟩
theorem AtG.at : ∀ (p : List Nat) {v : V} {g y : G}, AtG K Hs H v g → G.at p g = some y → ∃ w, AtG K Hs H w y
  | [], v, g, y, h, e => by cases e; exact ⟨v, h⟩
  | i :: p, _, _, y, .d _, e => by cases e
  | i :: p, _, _, y, .li _, e => by cases e
  | i :: p, _, _, y, .ls (gs := gs) h r, e => by
    cases q : gs[i]? with
    | none => simp [G.at, q] at e
    | some g1 =>
      obtain ⟨w, _, h2⟩ := r.get q
      simp only [G.at, q] at e
      exact AtG.at p h2 e
  | i :: p, _, _, y, .ob (gs := gs) h l r, e => by
    cases q : gs[i]? with
    | none => simp [G.at, q] at e
    | some g1 =>
      obtain ⟨w, _, h2⟩ := r.get q
      simp only [G.at, q] at e
      exact AtG.at p h2 e
theorem AtG.root {v : V} {g : G} (h : AtG K Hs H v g) : Rp K Hs v (Lf.root g) := by
  cases h with
  | d r => exact r
  | li _ => exact .ptr _
  | ls _ _ => exact .ptr _
  | ob _ _ _ => exact .ptr _
theorem AtGs.roots : ∀ {vs : List V} {gs : List G}, AtGs K Hs H vs gs → RpAll K Hs vs (gs.map Lf.root)
  | _, _, .nil => .nil
  | _, _, .cons h r => .cons h.root r.roots
theorem mem_addss : ∀ {gs : List G} {i : Nat} {g : G} {b : Addr}, gs[i]? = some g → b ∈ adds g → b ∈ addss gs
  | [], i, g, b, e, _ => by simp at e
  | x :: r, 0, g, b, e, m => by
    simp at e
    subst e
    rw [addss]
    exact List.mem_append_left _ m
  | x :: r, i + 1, g, b, e, m => by
    rw [addss]
    exact List.mem_append_right _ (mem_addss (i := i) (by simpa using e) m)
theorem AtGs.putAt {b : Addr} {o : HO} : ∀ (i : Nat) {vs : List V} {gs : List G} {g1 x1 : G}, AtGs K Hs H vs gs → (addss gs).Nodup → gs[i]? = some g1 → b ∈ adds g1 → (∀ w, AtG K Hs H w g1 → AtG K Hs (upd H b o) w x1) → adds x1 = adds g1 →
    AtGs K Hs (upd H b o) vs (gs.set i x1) ∧ addss (gs.set i x1) = addss gs
  | _, _, _, g1, x1, .nil, _, e, _, _, _ => by simp at e
  | 0, _, _, g1, x1, .cons (g := g) (gs := r0) h r, nd, e, m, k, ea => by
    simp at e
    subst e
    rw [addss] at nd
    have n2 := (List.nodup_append.mp nd).2.2
    exact ⟨.cons (k _ h) (r.off fun z => n2 b m b z rfl), by rw [List.set_cons_zero, addss, addss, ea]⟩
  | i + 1, _, _, g1, x1, .cons (g := g) (gs := r0) h r, nd, e, m, k, ea => by
    rw [addss] at nd
    have n2 := List.nodup_append.mp nd
    have e' : r0[i]? = some g1 := by simpa using e
    obtain ⟨h1, h2⟩ := AtGs.putAt i r n2.2.1 e' m k ea
    exact ⟨.cons (h.off fun z => n2.2.2 b z b (mem_addss e' m) rfl) h1, by rw [List.set_cons_succ, addss, addss, h2]⟩
theorem at_adds : ∀ (p : List Nat) {g y : G} {b : Addr}, G.at p g = some y → b ∈ adds y → b ∈ adds g
  | [], g, y, b, e, m => by cases e; exact m
  | i :: p, .d _, y, b, e, m => by cases e
  | i :: p, .li _ _, y, b, e, m => by cases e
  | i :: p, .ls c gs, y, b, e, m => by
    cases q : gs[i]? with
    | none => simp [G.at, q] at e
    | some g1 =>
      simp only [G.at, q] at e
      rw [adds]
      exact List.mem_cons_of_mem _ (mem_addss q (at_adds p e m))
  | i :: p, .ob c C fs gs, y, b, e, m => by
    cases q : gs[i]? with
    | none => simp [G.at, q] at e
    | some g1 =>
      simp only [G.at, q] at e
      rw [adds]
      exact List.mem_cons_of_mem _ (mem_addss q (at_adds p e m))
theorem nodup_get : ∀ {gs : List G} {i : Nat} {g : G}, gs[i]? = some g → (addss gs).Nodup → (adds g).Nodup
  | [], i, g, e, _ => by simp at e
  | x :: r, 0, g, e, nd => by
    simp at e
    subst e
    rw [addss] at nd
    exact (List.nodup_append.mp nd).1
  | x :: r, i + 1, g, e, nd => by
    rw [addss] at nd
    exact nodup_get (i := i) (by simpa using e) (List.nodup_append.mp nd).2.1
theorem AtG.putAt {b : Addr} {o : HO} {y x : G} (hx : ∀ w, AtG K Hs H w y → AtG K Hs (upd H b o) w x) (ea : adds x = adds y) (m : b ∈ adds y) : ∀ (p : List Nat) {v : V} {g : G}, AtG K Hs H v g → (adds g).Nodup → G.at p g = some y →
    AtG K Hs (upd H b o) v (G.put p x g) ∧ adds (G.put p x g) = adds g
  | [], v, g, h, nd, e => by cases e; exact ⟨hx v h, ea⟩
  | i :: p, _, _, .d _, _, e => by cases e
  | i :: p, _, _, .li _, _, e => by cases e
  | i :: p, _, _, .ls (b := c) (gs := gs) h r, nd, e => by
    cases q : gs[i]? with
    | none => simp [G.at, q] at e
    | some g1 =>
      simp only [G.at, q] at e
      simp only [G.put, q]
      rw [adds] at nd
      have n2 := List.nodup_cons.mp nd
      have mb := at_adds p e m
      have hc : c ≠ b := fun z => n2.1 (by rw [z]; exact mem_addss q mb)
      have k : ∀ w, AtG K Hs H w g1 → AtG K Hs (upd H b o) w (G.put p x g1) ∧ adds (G.put p x g1) = adds g1 := fun w hw => AtG.putAt hx ea m p hw (nodup_get q n2.2) e
      obtain ⟨w0, _, hw0⟩ := r.get q
      obtain ⟨h1, h2⟩ := AtGs.putAt i r n2.2 q mb (fun w hw => (k w hw).1) (k w0 hw0).2
      exact ⟨.ls (by rw [upd_ne hc]; exact h) h1, by rw [adds, adds, h2]⟩
  | i :: p, _, _, .ob (b := c) (gs := gs) h l r, nd, e => by
    cases q : gs[i]? with
    | none => simp [G.at, q] at e
    | some g1 =>
      simp only [G.at, q] at e
      simp only [G.put, q]
      rw [adds] at nd
      have n2 := List.nodup_cons.mp nd
      have mb := at_adds p e m
      have hc : c ≠ b := fun z => n2.1 (by rw [z]; exact mem_addss q mb)
      have k : ∀ w, AtG K Hs H w g1 → AtG K Hs (upd H b o) w (G.put p x g1) ∧ adds (G.put p x g1) = adds g1 := fun w hw => AtG.putAt hx ea m p hw (nodup_get q n2.2) e
      obtain ⟨w0, _, hw0⟩ := r.get q
      obtain ⟨h1, h2⟩ := AtGs.putAt i r n2.2 q mb (fun w hw => (k w hw).1) (k w0 hw0).2
      exact ⟨.ob (by rw [upd_ne hc]; exact h) l h1, by rw [adds, adds, h2]⟩
end
/-! ### new trees -/
def W3.keep (T : W3) (A : List Addr) : W3 := ⟨uni T.i (restr A T.h), uni T.n (restr A T.h), T.h⟩
theorem Grow.keep {T T' : W3} (g : Grow T T') {A : List Addr} (hA : ∀ b, b ∈ A → T.h b = none ∧ T'.i b = none) : Grow T (T'.keep A) := by
  have dj : ∀ a, restr A T'.h a ≠ none → T'.i a = none := fun a h => (hA a (restr_dom h)).2
  have fresh : ∀ {B : Hp} (a : Addr), B a = none → T.h a ≠ none → uni B (restr A T'.h) a = none := fun {B} a q r => by
    rw [uni_right q]
    cases e : restr A T'.h a with
    | none => rfl
    | some u => exact absurd (hA a (restr_dom (by rw [e]; intro z; cases z))).1 r
  exact ⟨⟨uni_mono g.ok.ni dj, uni_to g.ok.ih restr_same⟩, g.ex, g.xi.trans uni_l, g.xn.trans uni_l, fun a q r => fresh a (g.fi a q r) r, fun a q r => fresh a (g.fn a q r) r⟩
theorem keep_n {T : W3} (o : Ok T) {A : List Addr} {b : Addr} (m : b ∈ A) (h : T.i b = none) : (T.keep A).n b = T.h b := by
  show uni T.n (restr A T.h) b = T.h b
  rw [uni_right (o.n_none' h), restr_in m]
/-- e comes to a new tree that is d, its leaves held at l -/
def JU (X : Cx) (l : Lv) (e : Expr) (ρ : PEnv) (d : D) : Prop :=
  ∀ (T : W3) (σ : L2.St) (Q : VK), Fr X.K T σ ρ → (∀ v g T', Grow T T' → erase g = d → AtG X.K (T'.at l) T'.h v g → (∀ b, b ∈ adds g → T.h b = none ∧ T'.i b = none) → Nd g → Q v T'.h) → wE X e σ T.h Q
theorem erases_d : ∀ ds : List D, erases (ds.map G.d) = ds
  | [] => rfl
  | d :: r => by rw [List.map_cons, erases, erase, erases_d r]
theorem addss_d : ∀ ds : List D, addss (ds.map G.d) = []
  | [] => rfl
  | d :: r => by rw [List.map_cons, addss, adds, addss_d r]; rfl
theorem okGs_d : ∀ ds : List D, okGs (ds.map G.d) = ds.all leafD
  | [] => rfl
  | d :: r => by rw [List.map_cons, okGs, okG, okGs_d r]; rfl
theorem RpAll.gs {K : PySem.W.Frag} {Hs H : Hp} : ∀ {vs : List V} {ds : List D}, RpAll K Hs vs ds → AtGs K Hs H vs (ds.map G.d)
  | _, _, .nil => .nil
  | _, _, .cons h r => .cons (.d h) r.gs
theorem erases_append : ∀ (gs hs : List G), erases (gs ++ hs) = erases gs ++ erases hs
  | [], _ => rfl
  | g :: r, hs => by rw [List.cons_append, erases, erases, erases_append r hs]; rfl
theorem addss_append : ∀ (gs hs : List G), addss (gs ++ hs) = addss gs ++ addss hs
  | [], _ => rfl
  | g :: r, hs => by rw [List.cons_append, addss, addss, addss_append r hs, List.append_assoc]
theorem erases_length : ∀ gs : List G, (erases gs).length = gs.length
  | [] => rfl
  | g :: r => by rw [erases, List.length_cons, List.length_cons, erases_length r]
theorem AtGs.append {K : PySem.W.Frag} {Hs H : Hp} : ∀ {vs ws : List V} {gs hs : List G}, AtGs K Hs H vs gs → AtGs K Hs H ws hs → AtGs K Hs H (vs ++ ws) (gs ++ hs)
  | _, _, _, _, .nil, r => r
  | _, _, _, _, .cons h r, r' => .cons h (r.append r')
section
variable {X : Cx} {e a b c : Expr} {es : List Expr} {ρ ρ1 : PEnv} {d d1 d2 d3 : D} {l la lb lc : Lv} {pos p p2 : Pos} {i j k : Int} {ns ms : List Int} {ds fs : List D} {kt : Nat} {x y z : Str} {st : Stmt} {sts : List Stmt} {P : PEnds}
theorem JOI.ju (h : JOI X e ρ ns) : JU X .frs e ρ (.il ns) := fun T σ Q F q => h T σ Q F fun a T' g h0 hi hh =>
  q (.ref a) (.li a ns) T' g rfl (.li hh) (fun b m => by rw [adds, List.mem_singleton] at m; subst m; exact ⟨h0, hi⟩) ⟨by rw [adds]; exact List.nodup_cons.mpr ⟨List.not_mem_nil, List.nodup_nil⟩, rfl⟩
theorem JO.ju (h : JO X l e ρ ds) (hd : ds.all leafD = true) : JU X l e ρ (.lst ds) := fun T σ Q F q => h T σ Q F fun a vs T' g h0 hi hh r =>
  q (.ref a) (.ls a (ds.map G.d)) T' g (by rw [erase, erases_d]) (.ls hh r.gs) (fun b m => by rw [adds, addss_d, List.mem_singleton] at m; subst m; exact ⟨h0, hi⟩) ⟨by rw [adds, addss_d]; exact List.nodup_cons.mpr ⟨List.not_mem_nil, List.nodup_nil⟩, by rw [okG, okGs_d]; exact hd⟩
theorem JU.je (h : JU X .frs e ρ d) : JE X .frs e ρ d := fun T σ Q F q => h T σ Q F fun v g T' G e r m nd => by
  subst e
  exact q v (T'.keep (adds g)) (G.keep m) (r.rp (H2 := (T'.keep (adds g)).n) uni_l fun b mb => keep_n G.ok mb (m b mb).2)
theorem JU.eq (h : JU X l e ρ d) (q : d = d1) : JU X l e ρ d1 := by rw [← q]; exact h
theorem js_setU (n : Nat) {p' : Pos} (he : JU X l e ρ d) (h : ∀ g, erase g = d → okG g = true → P.nx (ρ.set n (some (.tr l g)))) (hl : l ≠ .full := by decide) (hN : X.N.Nodup) (hi : X.N[n]? = some x := by rfl) (hx : Loc X.env.scope x := by first | exact Or.inl rfl | exact Or.inr rfl)
    (hs : swapsWith e (some (.Name x p')) pos.line X.env = pure false := by exact sw_ns rfl) (hf : X.fn x = true ∨ X.env.scope.names.lookup x = some .local := by exact Or.inl rfl) : JS X (.Assign [.Name x p'] e pos) P ρ :=
  JS.of (ps_set (i := n) hN hi hx pe_w hs hf) fun T σ D F m => he T σ _ F fun v g T' G eg r q nd =>
    m.nx _ _ T' G.w ((F.grow G).setTr ⟨hl, r, fun b mb => (q b mb).2, nd.nd⟩ fun b mb => F.fresh (q b mb).1) (h g eg nd.ok)
theorem js_retU (he : JU X .frs e ρ d) (h : P.ru d) : JS X (.Return (some e) pos) P ρ :=
  JS.of (ps_ret pe_w) fun T σ D F m => he T σ _ F fun v g T' G eg r q nd => m.ru g v T' G.w (by rw [eg]; exact h) r (fun b mb => (q b mb).2) nd

/-- an own list of ints is given back -/
theorem js_retO (n : Nat) {p' : Pos} (hr : ρ[n]? = some (some (.ownI ns))) (h : P.ru (.il ns)) (hN : X.N[n]? = some x := by rfl) (hv : Vis X.env.scope x := by first | exact Or.inl rfl | exact Or.inr (Or.inl rfl) | exact Or.inr (Or.inr rfl)) (hd : (x == ("__debug__" : Str)) = false := by decide)
    (hcd : (x == ("__classdict__" : Str)) = false := by decide) : JS X (.Return (some (.Name x p')) pos) P ρ :=
  JS.of (ps_ret (pe_var hN hv hd hcd)) fun T σ D F m => by
    obtain ⟨v, h1, a, rfl, h2, h3⟩ := F.val n _ hr
    exact ⟨_, h1, m.ru (.li a ns) _ T (Gw.refl F.ok) h (.li h2) (fun b mb => by rw [adds, List.mem_singleton] at mb; subst mb; exact h3) ⟨by rw [adds]; exact List.nodup_cons.mpr ⟨List.not_mem_nil, List.nodup_nil⟩, rfl⟩⟩
/-- .. an own list of constants and tuples -/
theorem js_retOD (n : Nat) {p' : Pos} (hr : ρ[n]? = some (some (.own .frs ds))) (h : P.ru (.lst ds)) (hl : ds.all leafD = true) (hN : X.N[n]? = some x := by rfl) (hv : Vis X.env.scope x := by first | exact Or.inl rfl | exact Or.inr (Or.inl rfl) | exact Or.inr (Or.inr rfl)) (hd : (x == ("__debug__" : Str)) = false := by decide)
    (hcd : (x == ("__classdict__" : Str)) = false := by decide) : JS X (.Return (some (.Name x p')) pos) P ρ :=
  JS.of (ps_ret (pe_var hN hv hd hcd)) fun T σ D F m => by
    obtain ⟨v, h1, _, a, vs, rfl, h2, h3, rr⟩ := F.val n _ hr
    exact ⟨_, h1, m.ru (.ls a (ds.map G.d)) _ T (Gw.refl F.ok) (by rw [erase, erases_d]; exact h) (.ls h2 rr.gs) (fun b mb => by rw [adds, addss_d, List.mem_singleton] at mb; subst mb; exact h3)
      ⟨by rw [adds, addss_d]; exact List.nodup_cons.mpr ⟨List.not_mem_nil, List.nodup_nil⟩, by rw [okG, okGs_d]; exact hl⟩⟩
/-- .. a tree -/
theorem js_retT (n : Nat) {p' : Pos} {g : G} (hr : ρ[n]? = some (some (.tr .frs g))) (h : P.ru (erase g)) (ho : okG g = true) (hN : X.N[n]? = some x := by rfl) (hv : Vis X.env.scope x := by first | exact Or.inl rfl | exact Or.inr (Or.inl rfl) | exact Or.inr (Or.inr rfl)) (hd : (x == ("__debug__" : Str)) = false := by decide)
    (hcd : (x == ("__classdict__" : Str)) = false := by decide) : JS X (.Return (some (.Name x p')) pos) P ρ :=
  JS.of (ps_ret (pe_var hN hv hd hcd)) fun T σ D F m => by
    obtain ⟨v, h1, _, rt, hi, nd⟩ := F.val n _ hr
    exact ⟨_, h1, m.ru g _ T (Gw.refl F.ok) h rt hi ⟨nd, ho⟩⟩

/-! ### defs that make a new tree -/
def spU (K : PySem.W.Frag) (pre : List D → Prop) (G : List D → D) : Sp := fun vs H Q _ => ∃ ds, RpAll K H vs ds ∧ pre ds ∧
  ∀ v g H' Hn, Same H H' → Same Hn H' → (∀ a, Hn a ≠ none → H a = none) → erase g = G ds → AtG K Hn H' v g → (∀ b, b ∈ adds g → H b = none ∧ Hn b = none) → Nd g → Q v H'
theorem spU_of {K : PySem.W.Frag} {pre : List D → Prop} {G : List D → D} (vs : List V) (H : Hp) (Q : VK) (E : XK) (h : spF K pre G vs H Q E) : spU K pre G vs H Q E := by
  obtain ⟨ds, r, hp, q⟩ := h
  refine ⟨ds, r, hp, fun v g H' Hn s1 s2 dj eg rg fr nd => q v H' (uni Hn (restr (adds g) H')) s1 (uni_to s2 restr_same) (fun a ha => ?_) ?_⟩
  · cases e : Hn a with
    | some o => exact dj a (by rw [e]; intro z; cases z)
    | none =>
      rw [uni_right e] at ha
      exact (fr a (restr_dom ha)).1
  · rw [← eg]
    exact rg.rp uni_l fun b mb => by rw [uni_right (fr b mb).2, restr_in mb]
structure CalleeU (P : Program) (w : World) (K : PySem.W.Frag) (mg : Str → Option Value) (base : Heap) (k : Nat) (x : Str) (pre : List D → Prop) (G : List D → D) : Prop where
  ex : ∃ (f : Addr) (fd : FuncData) (ps : List Str), FnOk P w K mg base CX0 k f fd ps (spU K pre G) ∧ mg x = some (.ref f) ∧ PySem.W.keepIn K (.ref f) = true ∧ Binds K fd ps []
theorem CalleeU.callee {P : Program} {w : World} {K : PySem.W.Frag} {mg : Str → Option Value} {base : Heap} {k : Nat} {x : Str} {pre : List D → Prop} {G : List D → D} (C : CalleeU P w K mg base k x pre G) : Callee P w K mg base k x pre G := by
  obtain ⟨f, fd, ps, F, h⟩ := C.ex
  exact ⟨f, fd, ps, F.imp spU_of, h⟩
theorem ju_call {m n : Nat} {pre : List D → Prop} {G : List D → D} (C : CalleeU X.prog X.w X.K X.mg X.base m x pre G) (hr : Room n X.A) (ha : JA X .full (e :: es) ρ ds) (hp : pre ds) (hq : G ds = d := by rfl) (hk : m ≤ n := by decide) (hg : Gl X x := by rfl) (hdb : (x == ("__debug__" : Str)) = false := by decide)
    (he : starEach (e :: es) X.env = (false, eval e X.env) :: starEach es X.env := by exact star_c rfl) (hpl : (backTo pos (starEach es X.env)).any (·.1) = false := by exact back_ns rfl) : JU X .frs (.Call (.Name x p) (e :: es) [] pos) ρ d := by
  subst hq
  obtain ⟨f, fd, ps, F, hm, hkp, hb⟩ := C.ex
  intro T σ Q Fm q pins s I
  refine (pe_call F (hr.mono hk) hg hm hkp hb .nil pass0 pa_w hdb he hpl).run pins s σ T.h Q I (ha T σ _ Fm fun vs T1 g1 r1 => ?_)
  refine ⟨ds, by rw [List.append_nil]; exact r1, hp, fun v g H' Hn h1 h2 dj eg rg fr nd => q v g ⟨uni T1.i Hn, uni T1.n Hn, H'⟩ (g1.trans (Grow.called g1.ok h1 h2 dj)) eg (rg.mono (uni_r fun a h => g1.ok.n_none (dj a h)) (Same.refl _)) (fun b mb => ⟨Same.free g1.ex (fr b mb).1, ?_⟩) nd⟩
  show uni T1.i Hn b = none
  rw [uni_right (g1.ok.i_none (fr b mb).1)]
  exact (fr b mb).2
theorem fn_okU {P : Program} {w : World} {K : PySem.W.Frag} {mg : Str → Option Value} {base : Heap} {x qual : Str} {st : Stmt} {f : Addr} {fd : FuncData} {N ps : List Str} {k : Nat} {pre : List D → Prop} {G : List D → D} (F : Fun K x qual st f fd) (S : FnScope N ps (defScope st))
    (hpre : ∀ ds, pre ds → ds.length = ps.length)
    (body : ∀ (cdv : Value) (A : Around) (outer : List Env) (s : Shared) (H : Hp) (E : XK), Room k (A.deeper (PyProof.Rows.envOfC qual (defScope st) s.heap.objs.size f cdv)) → ∀ ds, pre ds →
      JSs (cxOf CX0 P w K mg base N qual (defScope st) f cdv A outer s H E).nox (defBody st) { nx := fun _ => False, rt := fun _ => False, ru := fun d => d = G ds } (startE N.length ds)) :
    FnOk P w K mg base CX0 (k + 1) f fd ps (spU K pre G) := by
  refine F.ok S (fun vs H Q E ⟨ds, r, hp, _⟩ => by rw [r.length]; exact hpre ds hp) fun cdv A outer s H vs Q E hr ⟨ds, r, hp, q⟩ => ?_
  have hlen : ds.length ≤ N.length := by
    rw [hpre ds hp]
    have := congrArg List.length S.pre
    rw [List.length_take] at this
    omega
  refine ⟨_, pss_w, body cdv A outer s H E hr ds hp ⟨H, fun _ => none, H⟩ _ _ (fr_start r hlen) ⟨fun ρ σ T' g F' z => z.elim, fun d v T' g z => z.elim, fun ρ σ T' g F' z => z.elim, fun ρ σ T' g F' z => z.elim, fun g v T' gw eg rg fr nd => ?_, fun _ _ _ _ _ _ _ z => z.elim⟩⟩
  have fb : ∀ b, b ∈ adds g → H b = none := fun b mb => by
    cases z : H b with
    | none => rfl
    | some o =>
      have z2 := gw.xi b o z
      rw [fr b mb] at z2
      cases z2
  refine q v g T'.h T'.n (gw.xi.trans gw.ok.ih) (gw.ok.ni.trans gw.ok.ih) (fun a h => ?_) eg rg (fun b mb => ⟨fb b mb, gw.ok.n_none' (fr b mb)⟩) nd
  cases z : H a with
  | none => rfl
  | some o => exact absurd (gw.fn a rfl (by show H a ≠ none; rw [z]; intro y; cases y) (by show H a ≠ none; rw [z]; intro y; cases y)) h
end
end Lf

set_option Elab.async false
set_option linter.all false
set_option maxRecDepth 100000
set_option maxHeartbeats 2000000
set_option autoImplicit false
namespace Lf
open PySem L2
/-! ### shapes of trees -/
theorem okG_il {g : G} {ns : List Int} (h : erase g = .il ns) (o : okG g = true) : ∃ b, g = .li b ns := by
  cases g with
  | d d => rw [erase] at h; subst h; cases o
  | li b m => rw [erase] at h; cases h; exact ⟨b, rfl⟩
  | ls b gs => rw [erase] at h; cases h
  | ob b C fs gs => rw [erase] at h; cases h
theorem okG_lst {g : G} {ds : List D} (h : erase g = .lst ds) (o : okG g = true) : ∃ b gs, g = .ls b gs ∧ erases gs = ds ∧ okGs gs = true := by
  cases g with
  | d d => rw [erase] at h; subst h; cases o
  | li b m => rw [erase] at h; cases h
  | ls b gs => rw [erase] at h; cases h; rw [okG] at o; exact ⟨b, gs, rfl, rfl, o⟩
  | ob b C fs gs => rw [erase] at h; cases h
theorem okG_obj {g : G} {C : Addr} {fs : List (Str × D)} (h : erase g = .obj C fs) (o : okG g = true) : ∃ b gs, g = .ob b C (fs.map (·.1)) gs ∧ erases gs = fs.map (·.2) ∧ okGs gs = true := by
  cases g with
  | d d => rw [erase] at h; subst h; cases o
  | li b m => rw [erase] at h; cases h
  | ls b gs => rw [erase] at h; cases h
  | ob b C' ns gs =>
    rw [erase] at h
    cases h
    rw [okG, Bool.and_eq_true] at o
    have e : ns.length = (erases gs).length := by rw [erases_length]; exact eq_of_beq o.1
    refine ⟨b, gs, ?_, ?_, o.2⟩
    · rw [List.map_fst_zip (Nat.le_of_eq e)]
    · rw [List.map_snd_zip (Nat.le_of_eq e.symm)]
theorem okGs_cons {gs : List G} {d : D} {ds : List D} (h : erases gs = d :: ds) (o : okGs gs = true) : ∃ g r, gs = g :: r ∧ erase g = d ∧ okG g = true ∧ erases r = ds ∧ okGs r = true := by
  cases gs with
  | nil => rw [erases] at h; cases h
  | cons g r =>
    rw [erases] at h
    cases h
    rw [okGs, Bool.and_eq_true] at o
    exact ⟨g, r, rfl, rfl, o.1, rfl, o.2⟩
theorem okGs_nil {gs : List G} (h : erases gs = []) : gs = [] := by
  cases gs with
  | nil => rfl
  | cons g r => rw [erases] at h; cases h
/-! no tuple within -/
mutual
def bareD : D → Bool
  | .tup _ => false
  | .lst ds => bareDs ds
  | .obj _ fs => bareFs fs
  | _ => true
def bareDs : List D → Bool
  | [] => true
  | d :: r => bareD d && bareDs r
def bareFs : List (Str × D) → Bool
  | [] => true
  | (_, d) :: r => bareD d && bareFs r
end
theorem bareFs_zip : ∀ {fs : List Str} {ds : List D}, fs.length = ds.length → bareFs (fs.zip ds) = bareDs ds
  | [], [], _ => rfl
  | f :: fs, d :: ds, h => by rw [List.zip_cons_cons, bareFs, bareDs, bareFs_zip (Nat.succ.inj h)]
  | [], _ :: _, h => by cases h
  | _ :: _, [], h => by cases h
mutual
theorem AtG.bare {K : PySem.W.Frag} {Hs Ht H : Hp} : ∀ {v : V} {g : G}, AtG K Hs H v g → okG g = true → bareD (erase g) = true → AtG K Ht H v g
  | _, _, .d (d := d) r, o, b => .d (r.scal (by
      rw [okG] at o
      rw [erase] at b
      cases d <;> first | exact o | cases b))
  | _, _, .li h, _, _ => .li h
  | _, _, .ls h r, o, b => by
    rw [okG] at o
    rw [erase, bareD] at b
    exact .ls h (AtGs.bare r o b)
  | _, _, .ob h l r, o, b => by
    rw [okG, Bool.and_eq_true] at o
    rw [erase, bareD, bareFs_zip (by rw [erases_length]; exact eq_of_beq o.1)] at b
    exact .ob h l (AtGs.bare r o.2 b)
theorem AtGs.bare {K : PySem.W.Frag} {Hs Ht H : Hp} : ∀ {vs : List V} {gs : List G}, AtGs K Hs H vs gs → okGs gs = true → bareDs (erases gs) = true → AtGs K Ht H vs gs
  | _, _, .nil, _, _ => .nil
  | _, _, .cons h r, o, b => by
    rw [okGs, Bool.and_eq_true] at o
    rw [erases, bareDs, Bool.and_eq_true] at b
    exact .cons (h.bare o.1 b.1) (AtGs.bare r o.2 b.2)
end
/-! ### classes made by their __init__ -/
def spIU (K : PySem.W.Frag) (C : Addr) (pre : List D → Prop) (G : List D → D) : Sp := fun vs H Q _ => ∃ (x dx : Addr) (us : List V) (ds : List D) (H0 : Hp), vs = .ref x :: us ∧ H x = some (.ins C dx []) ∧ H0 x = none ∧ Same H0 H ∧ RpAll K H0 us ds ∧ pre ds ∧
  ∀ g H' Hm, (∀ b o, H b = some o → b ≠ x → H' b = some o) → Same H0 Hm → Same Hm H' → (∀ a, H0 a = none → H a ≠ none → Hm a = none) → AtG K Hm H' (.ref x) g → erase g = G ds → (∀ b, b ∈ adds g → b ≠ x → H b = none) → (∀ b, b ∈ adds g → Hm b = none) → Nd g → Q .non H'
structure MakerU (P : Program) (w : World) (K : PySem.W.Frag) (mg : Str → Option Value) (base : Heap) (k : Nat) (x : Str) (C : Addr) (pre : List D → Prop) (G : List D → D) : Prop where
  mgC : mg x = some (.ref C)
  ex : ∃ (f : Addr) (fd : FuncData) (ps : List Str), FnOk P w K mg base CX0 k f fd ps (spIU K C pre G) ∧ Mk K C f ∧ Binds K fd ps []
theorem uni_rc {A B C : Hp} (h1 : Same A C) (h2 : Same B C) : Same B (uni A B) := fun a o h => by
  unfold uni
  cases e : A a with
  | none => exact h
  | some u =>
    have a1 := h1 a u e
    have a2 := h2 a o h
    rw [a1] at a2
    exact a2
section
variable {X : Cx} {e a b c : Expr} {es : List Expr} {ρ ρ1 : PEnv} {d d1 d2 d3 : D} {l la lb lc : Lv} {pos p p2 : Pos} {i j k : Int} {ns ms : List Int} {ds fs : List D} {kt : Nat} {x y z : Str} {st : Stmt} {sts : List Stmt} {P : PEnds}
/-- C(args), the arguments held in what is new and stays -/
theorem ju_make {m n : Nat} {C : Addr} {pre : List D → Prop} {G : List D → D} (M : MakerU X.prog X.w X.K X.mg X.base m x C pre G) (hr : Room n X.A) (ha : JA X .frs (e :: es) ρ ds) (hp : pre ds) (hq : G ds = d := by rfl) (hk : m + 1 ≤ n := by decide) (hg : Gl X x := by rfl) (hdb : (x == ("__debug__" : Str)) = false := by decide)
    (he : starEach (e :: es) X.env = (false, eval e X.env) :: starEach es X.env := by exact star_c rfl) (hpl : (backTo pos (starEach es X.env)).any (·.1) = false := by exact back_ns rfl) : JU X .frs (.Call (.Name x p) (e :: es) [] pos) ρ d := by
  subst hq
  obtain ⟨f, fd, ps, F, mk, hb⟩ := M.ex
  intro T σ Q Fm q pins s I
  refine (pe_make mk F (hr.mono hk) hg M.mgC hb .nil pass0 pa_w hdb he hpl).run pins s σ T.h Q I (ha T σ _ Fm fun vs T1 g1 r1 => ?_)
  intro y dx ny nd ne
  have s1 : Same T1.h (upd (upd T1.h dx (.own y)) y (.ins C dx [])) := (same_new nd).trans (same_new (by rw [upd_ne ne.symm]; exact ny))
  have sn : Same T1.n T1.h := g1.ok.ni.trans g1.ok.ih
  refine ⟨y, dx, vs, ds, T1.n, by rw [List.append_nil], upd_same, Same.free sn ny, sn.trans s1, r1, hp, fun g H' Hm h1 h2 h3 h4 rg eg f1 f2 nd' => ⟨rfl, ?_⟩⟩
  have s2 : Same T1.h H' := Same.made ny nd h1
  have fr : ∀ b, b ∈ adds g → T1.h b = none := fun b mb => by
    by_cases z : b = y
    · rw [z]; exact ny
    · exact Same.free s1 (f1 b mb z)
  refine q (.ref y) g ⟨uni T1.i Hm, Hm, H'⟩ (g1.trans ⟨⟨uni_rc (g1.ok.ih.trans s2) h3, uni_to (g1.ok.ih.trans s2) h3⟩, s2, uni_l, h2, fun b q1 q2 => ?_, fun b q1 q2 => h4 b q1 (Same.some s1 q2)⟩) eg rg (fun b mb => ⟨Same.free g1.ex (fr b mb), ?_⟩) nd'
  · show uni T1.i Hm b = none
    rw [uni_right q1]
    exact h4 b (Same.free g1.ok.ni q1) (Same.some s1 q2)
  · show uni T1.i Hm b = none
    rw [uni_right (g1.ok.i_none (fr b mb))]
    exact f2 b mb
/-- C(args), of what is made of numbers -/
theorem ju_makeB {m n : Nat} {C : Addr} {pre : List D → Prop} {G : List D → D} (M : MakerU X.prog X.w X.K X.mg X.base m x C pre G) (hr : Room n X.A) (ha : JA X .full (e :: es) ρ ds) (hp : pre ds) (hbare : bareD d = true) (hq : G ds = d := by rfl) (hk : m + 1 ≤ n := by decide) (hg : Gl X x := by rfl) (hdb : (x == ("__debug__" : Str)) = false := by decide)
    (he : starEach (e :: es) X.env = (false, eval e X.env) :: starEach es X.env := by exact star_c rfl) (hpl : (backTo pos (starEach es X.env)).any (·.1) = false := by exact back_ns rfl) : JU X .frs (.Call (.Name x p) (e :: es) [] pos) ρ d := by
  subst hq
  obtain ⟨f, fd, ps, F, mk, hb⟩ := M.ex
  intro T σ Q Fm q pins s I
  refine (pe_make mk F (hr.mono hk) hg M.mgC hb .nil pass0 pa_w hdb he hpl).run pins s σ T.h Q I (ha T σ _ Fm fun vs T1 g1 r1 => ?_)
  intro y dx ny nd ne
  have s1 : Same T1.h (upd (upd T1.h dx (.own y)) y (.ins C dx [])) := (same_new nd).trans (same_new (by rw [upd_ne ne.symm]; exact ny))
  refine ⟨y, dx, vs, ds, T1.h, by rw [List.append_nil], upd_same, ny, s1, r1, hp, fun g H' Hm h1 h2 h3 h4 rg eg f1 f2 nd' => ⟨rfl, ?_⟩⟩
  have s2 : Same T1.h H' := Same.made ny nd h1
  have fr : ∀ b, b ∈ adds g → T1.h b = none := fun b mb => by
    by_cases z : b = y
    · rw [z]; exact ny
    · exact Same.free s1 (f1 b mb z)
  exact q (.ref y) g ⟨T1.i, T1.n, H'⟩ (g1.trans ⟨⟨g1.ok.ni, g1.ok.ih.trans s2⟩, s2, Same.refl _, Same.refl _, fun b q1 q2 => q1, fun b q1 q2 => q1⟩) eg (rg.bare nd'.ok (by rw [eg]; exact hbare)) (fun b mb => ⟨Same.free g1.ex (fr b mb), g1.ok.i_none (fr b mb)⟩) nd'
theorem set_self {α : Type} {l : List α} {n : Nat} {x : α} (h : l[n]? = some x) : l.set n x = l := by
  apply List.ext_getElem?
  intro i
  by_cases e : n = i
  · subst e
    rw [List.getElem?_set_self (List.getElem?_eq_some_iff.mp h).1, h]
  · rw [List.getElem?_set_ne e]
theorem putF_new {f : Str} {v : V} : ∀ {fs : List Str} {vs : List V}, fs.length = vs.length → f ∉ fs → putF f v (fs.zip vs) = (fs ++ [f]).zip (vs ++ [v])
  | [], [], _, _ => rfl
  | g :: fs, w :: vs, h, n => by
    have n1 : g ≠ f := fun z => n (by rw [z]; exact List.mem_cons_self ..)
    rw [List.zip_cons_cons, putF, if_neg n1, putF_new (Nat.succ.inj h) (fun z => n (List.mem_cons_of_mem _ z))]
    rfl
  | [], _ :: _, h, _ => by cases h
  | _ :: _, [], h, _ => by cases h
theorem pe_self {p' : Pos} (n : Nat) (hN : X.N[n]? = some x := by rfl) (hv : Vis X.env.scope x := by first | exact Or.inl rfl | exact Or.inr (Or.inl rfl) | exact Or.inr (Or.inr rfl)) (hd : (x == ("__debug__" : Str)) = false := by decide) (hcd : (x == ("__classdict__" : Str)) = false := by decide) : PE X (.Name x p') (tVar n) := pe_var hN hv hd hcd
/-- self.f = e, a new field -/
theorem js_fldU (n : Nat) {C : Addr} {b : Addr} {f : Str} {nf : List Str} {gs : List G} {ap : Pos} {p' : Pos} (hr : ρ[n]? = some (some (.tr .frs (.ob b C nf gs)))) (he : JU X .frs e ρ d) (h : ∀ g, erase g = d → okG g = true → P.nx (ρ.set n (some (.tr .frs (.ob b C (nf ++ [f]) (gs ++ [g]))))))
    (hc : Cls X.K C) (hno : NoAttr X.K C f) (hf : f ∉ nf := by decide) (hz : nf.length < 1000 := by decide) (hN : X.N[n]? = some x := by rfl) (hv : Vis X.env.scope x := by first | exact Or.inl rfl | exact Or.inr (Or.inl rfl) | exact Or.inr (Or.inr rfl)) (hd : (x == ("__debug__" : Str)) = false := by decide) (hcd : (x == ("__classdict__" : Str)) = false := by decide)
    (hs : swapsWith e (some (.Attribute (.Name x p') f ap)) pos.line X.env = pure false := by exact sw_ns rfl) : JS X (.Assign [.Attribute (.Name x p') f ap] e pos) P ρ :=
  JS.of (ps_fld (pe_var hN hv hd hcd) pe_w hs) fun T σ D F m => he T σ _ F fun w g T1 g1 eg rg fr nd => by
    have F1 := F.grow g1
    obtain ⟨v, h1, hl, rt, hi, hnd⟩ := F1.val n _ hr
    cases rt with
    | @ob _ _ dx _ _ vs hh hlen rr =>
      have hb : b ∈ adds (.ob b C nf gs) := by rw [adds]; exact List.mem_cons_self ..
      have hbi := hi b hb
      have hnd2 := hnd
      rw [adds] at hnd2
      have n2 := List.nodup_cons.mp hnd2
      obtain ⟨v0, h10, _, rt0, _, _⟩ := F.val n _ hr
      have hbT := rt0.dom b hb
      have hbg : b ∉ adds g := fun z => hbT (fr b z).1
      have hgs : ∀ z, z ∈ addss gs → T.h z ≠ none := fun z mz => rt0.dom z (by rw [adds]; exact List.mem_cons_of_mem _ mz)
      refine ⟨_, h1, b, C, dx, _, rfl, hh, hc, hno, ?_, ?_⟩
      · rw [List.length_zip]
        exact Nat.lt_of_le_of_lt (Nat.min_le_left _ _) hz
      have F2 : Fr X.K T1 σ (ρ.set n none) := F1.forget (by rw [List.length_set]) fun j e' hj => by
        rcases getset hj with ⟨_, q⟩ | ⟨_, q⟩
        · cases q
        · exact q
      have no : ∀ z, z ∈ adds (.ob b C nf gs) → NotOwn σ (ρ.set n none) z := fun z mz =>
        ⟨fun j e' hj o s => by
          rcases getset hj with ⟨_, q⟩ | ⟨nj, q⟩
          · cases q
          · exact F1.sepO n j _ e' z hr q mz o s,
        fun j e' hj mz' => by
          rcases getset hj with ⟨_, q⟩ | ⟨nj, q⟩
          · cases q
          · exact nj (F1.sepT n j _ e' z hr q mz mz')⟩
      have no2 : ∀ z, z ∈ adds g → NotOwn σ (ρ.set n none) z := fun z mz => by
        have q := F.fresh (fr z mz).1
        exact ⟨fun j e' hj => by
          rcases getset hj with ⟨_, q'⟩ | ⟨nj, q'⟩
          · cases q'
          · exact q.own j e' q',
        fun j e' hj => by
          rcases getset hj with ⟨_, q'⟩ | ⟨nj, q'⟩
          · cases q'
          · exact q.inn j e' q'⟩
      have F3 := F2.put (o := .ins C dx (putF f w (nf.zip vs))) hbi (no b hb)
      have ea : adds (.ob b C (nf ++ [f]) (gs ++ [g])) = b :: (addss gs ++ adds g) := by
        rw [adds, addss_append, addss, addss, List.append_nil]
      have at_ : AtE X.K (T1.put b (.ins C dx (putF f w (nf.zip vs)))) (.ref b) (.tr .frs (.ob b C (nf ++ [f]) (gs ++ [g]))) := by
        refine ⟨by decide, ?_, fun z mz => ?_, ?_⟩
        · refine .ob (dx := dx) (vs := vs ++ [w]) ?_ (by rw [List.length_append, List.length_append, hlen]; rfl) (AtGs.append (rr.off n2.1) (.cons (rg.off hbg) .nil))
          show upd T1.h b _ b = _
          rw [upd_same, putF_new hlen hf]
        · rw [ea] at mz
          rcases List.mem_cons.mp mz with rfl | mz
          · exact hbi
          · rcases List.mem_append.mp mz with mz | mz
            · exact hi z (by rw [adds]; exact List.mem_cons_of_mem _ mz)
            · exact (fr z mz).2
        · rw [ea]
          refine List.nodup_cons.mpr ⟨fun mz => ?_, List.nodup_append.mpr ⟨n2.2, nd.nd, fun z1 m1 z2 m2 e' => ?_⟩⟩
          · rcases List.mem_append.mp mz with mz | mz
            · exact n2.1 mz
            · exact hbg mz
          · subst e'
            exact hgs z1 m1 (fr z1 m2).1
      have F4 := F3.bind (i := n) at_ (fun o => nomatch o) (fun z mz => by
        have mz' : z ∈ b :: (addss gs ++ adds g) := by rw [← ea]; exact mz
        rcases List.mem_cons.mp mz' with rfl | mz'
        · exact no _ hb
        · rcases List.mem_append.mp mz' with mz' | mz'
          · exact no z (by rw [adds]; exact List.mem_cons_of_mem _ mz')
          · exact no2 z mz')
      rw [set_self h1, List.set_set] at F4
      exact m.nx _ σ _ (g1.w.trans (Gw.put g1.ok hbi)) F4 (h g eg nd.ok)
end
/-! ### the body of an __init__ -/
def startI (n : Nat) (x C : Addr) (ds : List D) : PEnv := some (.tr .frs (.ob x C [] [])) :: (ds.map (fun d => some (.v .frs d)) ++ List.replicate (n - 1 - ds.length) none)
theorem fr_startI {K : PySem.W.Frag} {H H0 : Hp} {N : List Str} {us : List V} {ds : List D} {x C dx : Addr} (r : RpAll K H0 us ds) (hn : ds.length + 1 ≤ N.length) (hx : H x = some (.ins C dx [])) (h0 : H0 x = none) (s0 : Same H0 H) :
    Fr K ⟨fun b => if b = x then none else H b, H0, H⟩ (L2.start N (.ref x :: us)) (startI N.length x C ds) := by
  have ok : Ok ⟨fun b => if b = x then none else H b, H0, H⟩ := ⟨fun a o h => by
    show (if a = x then none else H a) = some o
    have h' : H0 a = some o := h
    rw [if_neg (fun z => by rw [z, h0] at h'; cases h')]
    exact s0 a o h', fun a o h => by
    have h' : (if a = x then none else H a) = some o := h
    split at h'
    · cases h'
    · exact h'⟩
  have get : ∀ {i : Nat} {e : E}, (startI N.length x C ds)[i]? = some (some e) → (i = 0 ∧ e = .tr .frs (.ob x C [] [])) ∨ ∃ j d, i = j + 1 ∧ ds[j]? = some d ∧ e = .v .frs d := fun {i e} h => by
    unfold startI at h
    cases i with
    | zero => simp at h; exact .inl ⟨rfl, h.symm⟩
    | succ i =>
      rw [List.getElem?_cons_succ] at h
      by_cases hi : i < ds.length
      · rw [List.getElem?_append_left (by rw [List.length_map]; exact hi), List.getElem?_map, List.getElem?_eq_getElem hi] at h
        cases h
        exact .inr ⟨i, _, rfl, List.getElem?_eq_getElem hi, rfl⟩
      · rw [List.getElem?_append_right (by rw [List.length_map]; omega), List.getElem?_replicate] at h
        split at h <;> cases h
  have ninn : ∀ {i : Nat} {e : E} {b : Addr}, (startI N.length x C ds)[i]? = some (some e) → b ∈ e.inn → i = 0 := fun {i e b} h m => by
    rcases get h with ⟨rfl, _⟩ | ⟨j, d, _, _, rfl⟩
    · rfl
    · cases m
  have nown : ∀ {i : Nat} {e : E}, (startI N.length x C ds)[i]? = some (some e) → e.isOwn = false := fun {i e} h => by
    rcases get h with ⟨rfl, rfl⟩ | ⟨j, d, _, _, rfl⟩ <;> rfl
  refine ⟨ok, ?_, fun i e h => ?_, fun i j e e' a h1 h2 o1 => ?_, fun i j e e' a h1 h2 m1 m2 => ?_, fun i j e e' a h1 h2 m1 o2 => ?_⟩
  · unfold L2.start startI
    have rl := r.length
    simp only [List.length_append, List.length_cons, List.length_map, List.length_replicate]
    omega
  · rcases get h with ⟨rfl, rfl⟩ | ⟨j, d, rfl, hd, rfl⟩
    · refine ⟨.ref x, rfl, by decide, .ob (dx := dx) (vs := []) hx rfl .nil, fun b m => ?_, ?_⟩
      · rw [adds, addss, List.mem_singleton] at m
        subst m
        show (if b = b then none else H b) = none
        rw [if_pos rfl]
      · rw [adds, addss]
        exact List.nodup_cons.mpr ⟨List.not_mem_nil, List.nodup_nil⟩
    · obtain ⟨v, h1, h2⟩ := r.get hd
      refine ⟨v, ?_, by decide, h2⟩
      unfold L2.start
      have hi : j < us.length := (List.getElem?_eq_some_iff.mp h1).1
      rw [List.getElem?_append_left (by rw [List.length_map, List.length_cons]; omega), List.getElem?_map, List.getElem?_cons_succ, h1]
      rfl
  · rw [nown h1] at o1; cases o1
  · rw [ninn h1 m1, ninn h2 m2]
  · rw [nown h2] at o2; cases o2
theorem fn_okI {P : Program} {w : World} {K : PySem.W.Frag} {mg : Str → Option Value} {base : Heap} {x qual : Str} {st : Stmt} {f : Addr} {fd : FuncData} {N ps : List Str} {k : Nat} {C : Addr} {pre : List D → Prop} {G : List D → D} (F : Fun K x qual st f fd) (S : FnScope N ps (defScope st))
    (hpre : ∀ ds, pre ds → ds.length + 1 = ps.length)
    (body : ∀ (cdv : Value) (A : Around) (outer : List Env) (s : Shared) (H : Hp) (E : XK), Room k (A.deeper (PyProof.Rows.envOfC qual (defScope st) s.heap.objs.size f cdv)) → ∀ (b : Addr) ds, pre ds →
      JSs (cxOf CX0 P w K mg base N qual (defScope st) f cdv A outer s H E).nox (defBody st) { nx := fun ρ' => ∃ nf gs, ρ'[0]? = some (some (.tr .frs (.ob b C nf gs))) ∧ erase (.ob b C nf gs) = G ds ∧ okG (.ob b C nf gs) = true, rt := fun _ => False } (startI N.length b C ds)) :
    FnOk P w K mg base CX0 (k + 1) f fd ps (spIU K C pre G) := by
  refine F.ok S (fun vs H Q E h => ?_) fun cdv A outer s H vs Q E hr h => ?_
  · obtain ⟨y, dx, us, ds, H0, rfl, _, _, _, r, hp, _⟩ := h
    rw [List.length_cons, r.length]
    exact hpre ds hp
  obtain ⟨y, dx, us, ds, H0, rfl, hx, h0, s0, r, hp, q⟩ := h
  have hlen : ds.length + 1 ≤ N.length := by
    rw [hpre ds hp]
    have := congrArg List.length S.pre
    rw [List.length_take] at this
    omega
  refine ⟨_, pss_w, body cdv A outer s H E hr y ds hp ⟨_, H0, H⟩ _ _ (fr_startI r hlen hx h0 s0) ⟨fun ρ σ T' gw F' e => ?_, fun d v T' g z => z.elim, fun ρ σ T' g F' z => z.elim, fun ρ σ T' g F' z => z.elim, fun _ _ _ _ z => z.elim, fun _ _ _ _ _ _ _ z => z.elim⟩⟩
  obtain ⟨nf, gs, hr', eg, ok⟩ := e
  obtain ⟨v, h1, _, rt, hi, nd⟩ := F'.val 0 _ hr'
  have xi : ∀ b o, H b = some o → b ≠ y → T'.i b = some o := fun b o hb ne => gw.xi b o (by
    show (if b = y then none else H b) = some o
    rw [if_neg ne]
    exact hb)
  cases rt with
  | ob hh hl rr =>
    refine q (.ob y C nf gs) T'.h T'.n (fun b o hb ne => gw.ok.ih b o (xi b o hb ne)) gw.xn (gw.ok.ni.trans gw.ok.ih) (fun a h1 h2 => by
      by_cases z : a = y
      · rw [z]; exact gw.ok.n_none' (hi y (by rw [adds]; exact List.mem_cons_self ..))
      · exact gw.fn a h1 (by show (if a = y then none else H a) ≠ none; rw [if_neg z]; exact h2) h2) (.ob hh hl rr) eg (fun b mb ne => ?_) (fun b mb => gw.ok.n_none' (hi b mb)) ⟨nd, ok⟩
    cases e : H b with
    | none => rfl
    | some o =>
      have := xi b o e ne
      rw [hi b mb] at this
      cases this
end Lf

set_option Elab.async false
set_option linter.all false
set_option maxRecDepth 100000
set_option maxHeartbeats 2000000
set_option autoImplicit false
namespace Lf
open PySem L2
/-- a node of a name's tree changes -/
theorem Fr.putT {K : PySem.W.Frag} {T : W3} {σ : L2.St} {ρ : PEnv} (F : Fr K T σ ρ) {n : Nat} {l : Lv} {g y x : G} {p : List Nat} {b : Addr} {o : HO} (hr : ρ[n]? = some (some (.tr l g))) (hat : G.at p g = some y) (mb : b ∈ adds y) (ea : adds x = adds y)
    (hx : ∀ w, AtG K (T.at l) T.h w y → AtG K (T.at l) (upd T.h b o) w x) : Fr K (T.put b o) σ (ρ.set n (some (.tr l (G.put p x g)))) := by
  obtain ⟨v, h1, h2⟩ := F.val n _ hr
  have k : ∀ v, AtG K (T.at l) T.h v g → AtG K (T.at l) (upd T.h b o) v (G.put p x g) ∧ adds (G.put p x g) = adds g := fun v h => AtG.putAt hx ea mb p h h2.2.2.2 hat
  exact F.chgT hr (at_adds p hat mb) (k v h2.2.1).2 fun v' _ h' => (k v' h').1
theorem lookup_zip {K : PySem.W.Frag} {Hs H : Hp} {f : Str} {g1 : G} : ∀ {fs : List Str} {vs : List V} {gs : List G}, AtGs K Hs H vs gs → (fs.zip gs).lookup f = some g1 → ∃ w, (fs.zip vs).lookup f = some w ∧ AtG K Hs H w g1
  | [], _, _, _, e => by simp at e
  | _ :: _, _, _, .nil, e => by simp at e
  | h :: fs, _, _, .cons (v := v) (g := g) hv r, e => by
    rw [List.zip_cons_cons] at e ⊢
    by_cases q : f = h
    · subst q
      simp at e
      subst e
      exact ⟨v, by simp, hv⟩
    · have q' : (f == h) = false := by simpa using q
      simp only [List.lookup, q'] at e ⊢
      exact lookup_zip r e
section
variable {X : Cx} {e a b c : Expr} {es : List Expr} {ρ ρ1 : PEnv} {d d1 d2 d3 : D} {l la lb lc : Lv} {pos p p2 : Pos} {i j k : Int} {ns ms : List Int} {ds fs : List D} {kt : Nat} {x y z : Str} {st : Stmt} {sts : List Stmt} {P : PEnds} {g g1 : G} {q : List Nat} {r : Addr} {gs : List G}
/-! ### reading -/
/-- the whole tree, read -/
theorem je_tr (n : Nat) (hr : ρ[n]? = some (some (.tr l g))) (hq : erase g = d := by rfl) (hN : X.N[n]? = some x := by rfl) (hv : Vis X.env.scope x := by first | exact Or.inl rfl | exact Or.inr (Or.inl rfl) | exact Or.inr (Or.inr rfl)) (hd : (x == ("__debug__" : Str)) = false := by decide)
    (hcd : (x == ("__classdict__" : Str)) = false := by decide) : JE X .full (.Name x pos) ρ d :=
  JE.of (pe_var hN hv hd hcd) fun T σ Q F q => by
    obtain ⟨v, h1, h2⟩ := F.val n _ hr
    subst hq
    exact ⟨v, h1, q v T (Grow.refl F.ok) (h2.2.1.rp (F.ok.full (a := l)) fun _ _ => rfl)⟩
/-- where it stands -/
theorem je_trR (n : Nat) (hr : ρ[n]? = some (some (.tr l g))) (hq : root g = d := by rfl) (hN : X.N[n]? = some x := by rfl) (hv : Vis X.env.scope x := by first | exact Or.inl rfl | exact Or.inr (Or.inl rfl) | exact Or.inr (Or.inr rfl)) (hd : (x == ("__debug__" : Str)) = false := by decide)
    (hcd : (x == ("__classdict__" : Str)) = false := by decide) : JE X l (.Name x pos) ρ d :=
  JE.of (pe_var hN hv hd hcd) fun T σ Q F q => by
    obtain ⟨v, h1, h2⟩ := F.val n _ hr
    subst hq
    exact ⟨v, h1, q v T (Grow.refl F.ok) h2.2.1.root⟩
/-- where a field of a node stands -/
theorem je_trF (n : Nat) (q : List Nat) {C : Addr} {nf : List Str} {f : Str} (ha : JE X la a ρ (.ptr r)) (hr : ρ[n]? = some (some (.tr l g))) (hat : G.at q g = some (.ob r C nf gs)) (hl : (nf.zip gs).lookup f = some g1) (hc : Cls X.K C) (hn : NoAttr X.K C f) (hq : root g1 = d := by rfl)
    (hb : attributeBase a f X.env (eval a X.env) = eval a X.env := by rfl) : JE X l (.Attribute a f pos) ρ d :=
  JE.of (pe_fld pe_w hb) fun T σ Q F k => ha T σ _ F fun v T1 g1 r1 => by
    cases r1
    obtain ⟨w, h1, h2⟩ := (F.grow g1).val n _ hr
    obtain ⟨w', h3⟩ := h2.2.1.at q hat
    subst hq
    cases h3 with
    | ob hh hlen rr =>
      obtain ⟨u, l1, l2⟩ := lookup_zip rr hl
      exact ⟨r, C, _, _, u, rfl, hh, hc, hn, l1, k u T1 g1 l2.root⟩
/-- a node read: a list of the places its items stand at -/
theorem je_view (n : Nat) (q : List Nat) (ha : JE X la a ρ (.ptr r)) (hr : ρ[n]? = some (some (.tr l g))) (hat : G.at q g = some (.ls r gs)) (hq : gs.map root = ds := by rfl) : JE X .full a ρ (.lst ds) := fun T σ Q F k => ha T σ Q F fun v T1 g1 r1 => by
  cases r1
  obtain ⟨w, h1, h2⟩ := (F.grow g1).val n _ hr
  obtain ⟨w', h3⟩ := h2.2.1.at q hat
  subst hq
  cases h3 with
  | ls hh rr => exact k _ T1 g1 (.lst hh (rr.roots.mono (g1.ok.full (a := l))))
/-- a node read as it is -/
theorem je_deep (n : Nat) (q : List Nat) {y : G} (ha : JE X la a ρ (.ptr r)) (hr : ρ[n]? = some (some (.tr l g))) (hat : G.at q g = some y) (hy : root y = .ptr r) (hn : ∀ d, y ≠ .d d := by intro _ h; cases h) (hq : erase y = d := by rfl) : JE X .full a ρ d := fun T σ Q F k => ha T σ Q F fun v T1 g1 r1 => by
  cases r1
  obtain ⟨w, h1, h2⟩ := (F.grow g1).val n _ hr
  obtain ⟨w', h3⟩ := h2.2.1.at q hat
  subst hq
  have e : w' = .ref r := by
    cases h3 with
    | d _ => exact absurd rfl (hn _)
    | li _ => cases hy; rfl
    | ls _ _ => cases hy; rfl
    | ob _ _ _ => cases hy; rfl
  rw [e] at h3
  exact k _ T1 g1 (h3.rp (g1.ok.full (a := l)) fun _ _ => rfl)
/-! ### changes -/
theorem js_appPI (n : Nat) (q : List Nat) {apos cpos : Pos} (ha : JE X la a ρ (.ptr r)) (hr : ρ[n]? = some (some (.tr l g))) (hat : G.at q g = some (.li r ns)) (he : JE X lb e ρ (.int i)) (h : P.nx (ρ.set n (some (.tr l (G.put q (.li r (ns ++ [i])) g))))) (hz : ns.length < 100000)
    (hbm : ∀ (to : TE) (ta : TA), PE X a to → PA X [e] ta → PE X (.Call (.Attribute a "append" apos) [e] [] cpos) (tBM X.K "list" rAppend to ta) := by
      exact fun to ta ho hx => pe_bm PySem.F.plainAttrs_list PySem.F.slot_list_append PySem.F.type_list_append mt_append ho hx)
    (hst : starEach [e] X.env = (false, eval e X.env) :: starEach [] X.env := by exact star_c rfl) (hs : swapsWith (.Call (.Attribute a "append" apos) [e] [] cpos) none pos.line X.env = pure false := by exact sw_ns rfl) :
    JS X (.Expr (.Call (.Attribute a "append" apos) [e] [] cpos) pos) P ρ :=
  JS.of (ps_expr (hbm _ _ pe_w (pa_cons pe_w pa_nil hst)) hs) fun T σ D F m => ha T σ _ F fun v T1 g1 r1 => by
    cases r1
    obtain ⟨w, h1, h2⟩ := (F.grow g1).val n _ hr
    obtain ⟨w', h3⟩ := h2.2.1.at q hat
    cases h3 with
    | li hh =>
    refine ⟨.inl ⟨rfl, _, SqL.of hh⟩, he T1 σ _ (F.grow g1) fun w T2 g2 r2 => ?_⟩
    cases r2
    have g := g1.trans g2
    have hh2 := g2.ex _ _ hh
    have hi := g2.fi r (h2.2.2.1 r (at_adds q hat (by rw [adds]; exact List.mem_cons_self ..))) (by rw [hh]; intro z; cases z)
    refine ⟨r, _, _, rfl, rfl, hh2, by rw [List.length_map]; exact small_lt hz, ?_⟩
    exact m.nx _ σ (T2.put r _) (g.w.trans (Gw.put g.ok hi)) ((F.grow g).putT (x := .li r (ns ++ [i])) hr hat (by rw [adds]; exact List.mem_cons_self ..) rfl fun w hw => by
      cases hw with
      | li _ => exact .li (by rw [upd_same, List.map_append]; rfl)) h
theorem js_appPD (n : Nat) (q : List Nat) {apos cpos : Pos} (ha : JE X la a ρ (.ptr r)) (hr : ρ[n]? = some (some (.tr l g))) (hat : G.at q g = some (.ls r gs)) (he : JE X lb e ρ d) (h : P.nx (ρ.set n (some (.tr l (G.put q (.ls r (gs ++ [.d d])) g))))) (hz : gs.length < 100000) (hle : Lv.le lb l = true := by rfl)
    (hbm : ∀ (to : TE) (ta : TA), PE X a to → PA X [e] ta → PE X (.Call (.Attribute a "append" apos) [e] [] cpos) (tBM X.K "list" rAppend to ta) := by
      exact fun to ta ho hx => pe_bm PySem.F.plainAttrs_list PySem.F.slot_list_append PySem.F.type_list_append mt_append ho hx)
    (hst : starEach [e] X.env = (false, eval e X.env) :: starEach [] X.env := by exact star_c rfl) (hs : swapsWith (.Call (.Attribute a "append" apos) [e] [] cpos) none pos.line X.env = pure false := by exact sw_ns rfl) :
    JS X (.Expr (.Call (.Attribute a "append" apos) [e] [] cpos) pos) P ρ :=
  JS.of (ps_expr (hbm _ _ pe_w (pa_cons pe_w pa_nil hst)) hs) fun T σ D F m => ha T σ _ F fun v T1 g1 r1 => by
    cases r1
    obtain ⟨w, h1, h2⟩ := (F.grow g1).val n _ hr
    obtain ⟨w', h3⟩ := h2.2.1.at q hat
    have hnl : l ≠ .full := h2.1
    cases h3 with
    | @ls _ _ vs hh rr =>
    refine ⟨.inl ⟨rfl, _, SqL.of hh⟩, he T1 σ _ (F.grow g1) fun w T2 g2 r2 => ?_⟩
    have g := g1.trans g2
    have hh2 := g2.ex _ _ hh
    have mr : r ∈ adds (.ls r gs) := by rw [adds]; exact List.mem_cons_self ..
    have hi := g2.fi r (h2.2.2.1 r (at_adds q hat mr)) (by rw [hh]; intro z; cases z)
    refine ⟨r, _, _, rfl, rfl, hh2, by rw [rr.length]; exact small_lt hz, ?_⟩
    have ea : adds (.ls r (gs ++ [.d d])) = adds (.ls r gs) := by rw [adds, adds, addss_append, addss, adds, addss, List.append_nil, List.append_nil]
    obtain ⟨w2, k1, k2⟩ := (F.grow g).val n _ hr
    have nd2 := k2.2.2.2
    refine m.nx _ σ (T2.put r _) (g.w.trans (Gw.put g.ok hi)) ((F.grow g).putT hr hat mr ea fun w' hw => ?_) h
    cases hw with
    | @ls _ _ vs' hh' rr' =>
      rw [hh2] at hh'
      cases hh'
      refine .ls upd_same (AtGs.append (rr'.off fun z => ?_) (.cons (.d (r2.mono (g2.ok.le hle))) .nil))
      have : (adds (.ls r gs)).Nodup := by
        have key : ∀ (p : List Nat) {g y : G}, G.at p g = some y → (adds g).Nodup → (adds y).Nodup := by
          intro p
          induction p with
          | nil => intro g y e nd; cases e; exact nd
          | cons i p ih =>
            intro g y e nd
            cases g with
            | d _ => cases e
            | li _ _ => cases e
            | ls c gs =>
              cases q : gs[i]? with
              | none => simp [G.at, q] at e
              | some g1 =>
                simp only [G.at, q] at e
                rw [adds] at nd
                exact ih e (nodup_get q (List.nodup_cons.mp nd).2)
            | ob c C fs gs =>
              cases q : gs[i]? with
              | none => simp [G.at, q] at e
              | some g1 =>
                simp only [G.at, q] at e
                rw [adds] at nd
                exact ih e (nodup_get q (List.nodup_cons.mp nd).2)
        exact key q hat nd2
      rw [adds] at this
      exact (List.nodup_cons.mp this).1 z
theorem js_popPI (n : Nat) (q : List Nat) {apos cpos : Pos} (ha : JE X la a ρ (.ptr r)) (hr : ρ[n]? = some (some (.tr l g))) (hat : G.at q g = some (.li r ns)) (h : P.nx (ρ.set n (some (.tr l (G.put q (.li r ns.dropLast) g))))) (hz : 0 < ns.length)
    (hbm : ∀ (to : TE), PE X a to → PE X (.Call (.Attribute a "pop" apos) [] [] cpos) (tBM0 X.K "list" rPop to) := by
      exact fun to ho => pe_bm0 PySem.F.plainAttrs_list PySem.F.slot_list_pop PySem.F.type_list_pop mt_pop ho)
    (hs : swapsWith (.Call (.Attribute a "pop" apos) [] [] cpos) none pos.line X.env = pure false := by exact sw_ns rfl) :
    JS X (.Expr (.Call (.Attribute a "pop" apos) [] [] cpos) pos) P ρ :=
  JS.of (ps_expr (hbm _ pe_w) hs) fun T σ D F m => ha T σ _ F fun v T1 g1 r1 => by
    cases r1
    obtain ⟨w, h1, h2⟩ := (F.grow g1).val n _ hr
    obtain ⟨w', h3⟩ := h2.2.1.at q hat
    cases h3 with
    | li hh =>
    refine ⟨.inl ⟨rfl, _, SqL.of hh⟩, r, _, .int (ns[ns.length - 1]'(by omega)), rfl, rfl, hh, ?_, ?_⟩
    · rw [List.length_map, List.getElem?_map, List.getElem?_eq_getElem (by omega)]
      rfl
    · have mr : r ∈ adds (.li r ns) := by rw [adds]; exact List.mem_cons_self ..
      have hi := h2.2.2.1 r (at_adds q hat mr)
      exact m.nx _ σ (T1.put r _) (g1.w.trans (Gw.put g1.ok hi)) ((F.grow g1).putT (x := .li r ns.dropLast) hr hat mr rfl fun w hw => by
        cases hw with
        | li _ => exact .li (by rw [upd_same, List.map_dropLast])) h
theorem js_setPI (n : Nat) (q : List Nat) {pt : Pos} (ha : JE X la a ρ (.ptr r)) (hr : ρ[n]? = some (some (.tr l g))) (hat : G.at q g = some (.li r ns)) (he : JE X lc e ρ (.int k)) (hb : JE X lb b ρ (.int i)) (hin : inR ns.length i) (h : P.nx (ρ.set n (some (.tr l (G.put q (.li r (setI ns i k)) g)))))
    (hgs : ∀ (to ti : TE), PE X a to → PE X b ti → PG X (.Subscript a b pt) (gSub to ti rSetL) := by exact fun to ti h1 h2 => pg_sub h1 h2 set_list)
    (hs : swapsWithSole [.Subscript a b pt] e pos.line X.env = pure false := by exact sws_ns rfl) (hw : swappedStores [.Subscript a b pt] e X.env = pure none := by exact ss_sub)
    (h1 : (assignEach [.Subscript a b pt] X.env).map (·.2) = [assign (.Subscript a b pt) X.env] := by rfl) : JS X (.Assign [.Subscript a b pt] e pos) P ρ :=
  JS.of (ps_asg pe_w (hgs _ _ pe_w pe_w) hs hw h1) fun T σ D F m => he T σ _ F fun w T1 g1 r1 => by
    cases r1
    refine ha T1 σ _ (F.grow g1) fun v T2 g2 r2 => ?_
    cases r2
    refine hb T2 σ _ (F.grow (g1.trans g2)) fun u T3 g3 r3 => ?_
    cases r3
    have g := (g1.trans g2).trans g3
    obtain ⟨w, h1, h2⟩ := (F.grow g).val n _ hr
    obtain ⟨w', h3⟩ := h2.2.1.at q hat
    cases h3 with
    | li hh =>
    have mr : r ∈ adds (.li r ns) := by rw [adds]; exact List.mem_cons_self ..
    have hi := h2.2.2.1 r (at_adds q hat mr)
    obtain ⟨j, hj, ej, qj⟩ := ixN_some hin
    refine ⟨r, _, i, j, rfl, rfl, hh, by rw [List.length_map]; exact ej, ?_⟩
    have es : (ns.map V.int).set j (V.int k) = (setI ns i k).map V.int := by
      unfold setI
      rcases qj with ⟨h0, rfl⟩ | ⟨h0, rfl⟩
      · rw [if_pos h0, List.map_set]
      · rw [if_neg (by omega), List.map_set]
    rw [es]
    exact m.nx _ σ (T3.put r _) (g.w.trans (Gw.put g.ok hi)) ((F.grow g).putT (x := .li r (setI ns i k)) hr hat mr rfl fun w hw => by
      cases hw with
      | li _ => exact .li upd_same) h

/-! ### displays of new trees -/
def JAU (X : Cx) (l : Lv) (es : List Expr) (ρ : PEnv) (ds : List D) : Prop :=
  ∀ (T : W3) (σ : L2.St) (Q : List V → Hp → Prop), Fr X.K T σ ρ → (∀ vs gs T', Grow T T' → erases gs = ds → AtGs X.K (T'.at l) T'.h vs gs → (∀ b, b ∈ addss gs → T.h b = none ∧ T'.i b = none) → (addss gs).Nodup → okGs gs = true → Q vs T'.h) → wA X es σ T.h Q
theorem jau_nil : JAU X l [] ρ [] := fun T σ Q F q pos pins s I => pa_nil.run pos pins s σ T.h Q I (q [] [] T (Grow.refl F.ok) rfl .nil (fun b m => by rw [addss] at m; cases m) (by rw [addss]; exact List.nodup_nil) rfl)
theorem jau_cons (h : JU X l e ρ d) (hr : JAU X l es ρ ds) (hs : starEach (e :: es) X.env = (false, eval e X.env) :: starEach es X.env := by exact star_c rfl) : JAU X l (e :: es) ρ (d :: ds) :=
  fun T σ Q F q pos pins s I => (pa_cons pe_w pa_w hs).run pos pins s σ T.h Q I (h T σ _ F fun v g T1 g1 e1 r1 m1 nd1 => hr T1 σ _ (F.grow g1) fun vs gs T2 g2 e2 r2 m2 nd2 ok2 =>
    q _ (g :: gs) T2 (g1.trans g2) (by rw [erases, e1, e2]) (.cons (r1.mono (g2.at l) g2.ex) r2) (fun b m => by
      rw [addss] at m
      rcases List.mem_append.mp m with m | m
      · exact ⟨(m1 b m).1, g2.fi b (m1 b m).2 (r1.dom b m)⟩
      · exact ⟨Same.free g1.ex (m2 b m).1, (m2 b m).2⟩) (by
      rw [addss]
      exact List.nodup_append.mpr ⟨nd1.nd, nd2, fun a ma b mb e => by subst e; exact r1.dom a ma (m2 a mb).1⟩) (by rw [okGs, nd1.ok, ok2]; rfl))
/-- a display of new trees and of constants -/
theorem jau_conD (h : JE X .frs e ρ d) (hr : JAU X .frs es ρ ds) (hl : leafD d = true := by rfl) (hs : starEach (e :: es) X.env = (false, eval e X.env) :: starEach es X.env := by exact star_c rfl) : JAU X .frs (e :: es) ρ (d :: ds) :=
  fun T σ Q F q pos pins s I => (pa_cons pe_w pa_w hs).run pos pins s σ T.h Q I (h T σ _ F fun v T1 g1 r1 => hr T1 σ _ (F.grow g1) fun vs gs T2 g2 e2 r2 m2 nd2 ok2 =>
    q _ (.d d :: gs) T2 (g1.trans g2) (by rw [erases, erase, e2]) (.cons (.d (r1.mono (g2.at .frs))) r2) (fun b m => by
      rw [addss, adds, List.nil_append] at m
      exact ⟨Same.free g1.ex (m2 b m).1, (m2 b m).2⟩) (by
      rw [addss, adds, List.nil_append]
      exact nd2) (by rw [okGs, okG, hl, ok2]; rfl))
theorem ju_lst (h : JAU X l es ρ ds) (hz : ds.length ≤ 100000 := by first | decide | exact of_decide_eq_true rfl) (z : Lv.le l .imm = true := by rfl) : JU X l (.List es pos) ρ (.lst ds) :=
  fun T σ Q F q pins s I => (pe_lst pa_w).run pins s σ T.h Q I (h T σ _ F fun vs gs T1 g1 e1 r1 m1 nd1 ok1 => ⟨by rw [r1.length, ← erases_length, e1]; exact small_of hz, fun p hp => by
    have np : p ∉ addss gs := fun m => r1.dom p m hp
    have r2 := r1.off (o := .lst vs) np
    have r2' : AtGs X.K ((T1.put p (.lst vs)).at l) (upd T1.h p (.lst vs)) vs gs := by
      cases l with
      | full => cases z
      | imm => exact r2
      | frs => exact r2
    exact q _ (.ls p gs) (T1.put p _) (g1.trans (Grow.put g1.ok hp)) (by rw [erase, e1]) (.ls upd_same r2') (fun b m => by
      rw [adds] at m
      rcases List.mem_cons.mp m with rfl | m
      · exact ⟨Same.free g1.ex hp, g1.ok.i_none hp⟩
      · exact m1 b m) ⟨by rw [adds]; exact List.nodup_cons.mpr ⟨np, nd1⟩, by rw [okG]; exact ok1⟩⟩)

/-! ### comprehensions of new trees -/
theorem lcU_run {own : List Nat} {tt : TT} {te : TE} {gg : TG} {wi : TI} {l' : Lv} {Tst : D → Bool} {f : D → D} {ρd : D → PEnv} (hl' : Lv.le l' .imm = true)
    (hi : ∀ (T : W3) (σ : L2.St) (R : It → Hp → Prop), Fr X.K T σ ρ → (∀ J T', Grow T T' → Walks X.K T' J l ds → R J T'.h) → wi σ T.h R)
    (hg : ∀ d, d ∈ ds → ∀ (T : W3) (σ : L2.St) (v : V) (Q : L2.St → Hp → Prop), Fr X.K T σ (wipeL ρ own) → Rp X.K (T.at l) v d → (∀ σ', L2.wipe σ' own = L2.wipe σ own → Fr X.K T σ' (ρd d) → Q σ' T.h) → gg v σ T.h Q)
    (ht : ∀ d, d ∈ ds → ∀ (T : W3) (σ : L2.St) (Q : Bool → Hp → Prop), Fr X.K T σ (ρd d) → (∀ T', Grow T T' → Q (Tst d) T'.h) → tt σ T.h Q)
    (he : ∀ d, d ∈ ds → Tst d = true → ∀ (T : W3) (σ : L2.St) (Q : VK), Fr X.K T σ (ρd d) → (∀ v g T', Grow T T' → erase g = f d → AtG X.K (T'.at l') T'.h v g → (∀ b, b ∈ adds g → T.h b = none ∧ T'.i b = none) → Nd g → Q v T'.h) → te σ T.h Q)
    (hz : ds.length ≤ 100000) (T : W3) (σ : L2.St) (Q : VK) (F : Fr X.K T σ ρ)
    (q : ∀ v g T', Grow T T' → erase g = .lst ((ds.filter Tst).map f) → AtG X.K (T'.at l') T'.h v g → (∀ b, b ∈ adds g → T.h b = none ∧ T'.i b = none) → Nd g → Q v T'.h) : tLc wi gg tt te own σ T.h Q := by
  refine hi T σ _ F fun J T1 g1 W => ?_
  intro D0 hD
  have F1 := (F.grow g1)
  have hww : L2.wipe (L2.wipe σ own) own = L2.wipe σ own := by
    have key : ∀ (own : List Nat) (σ : L2.St) (n : Nat), L2.wipe (σ.set n none) own = (L2.wipe σ own).set n none := by
      intro own
      induction own with
      | nil => intro σ n; rfl
      | cons v r ih =>
        intro σ n
        show (L2.wipe (σ.set n none) r).set v none = ((L2.wipe σ r).set v none).set n none
        rw [ih]
        by_cases e : n = v
        · subst e; rfl
        · rw [List.set_comm _ _ e]
    have key2 : ∀ (own : List Nat) (σ : L2.St), L2.wipe (L2.wipe σ own) own = L2.wipe σ own := by
      intro own
      induction own with
      | nil => intro σ; rfl
      | cons v r ih =>
        intro σ
        show (L2.wipe ((L2.wipe σ r).set v none) r).set v none = (L2.wipe σ r).set v none
        rw [key, ih, List.set_set]
    exact key2 own σ
  refine ⟨fun i m H => m = ds.length - i ∧ i ≤ ds.length ∧ ∃ T2 vs gs, T2.h = H ∧ Gs T1 T2 ∧ Same T1.h T2.h ∧ Fr X.K T2 σ ρ ∧ T2.i D0 = none ∧ T2.h D0 = some (.lst vs) ∧ erases gs = ((ds.take i).filter Tst).map f ∧ AtGs X.K (T2.at l') T2.h vs gs ∧
      (∀ b, b ∈ addss gs → T1.h b = none ∧ T2.i b = none) ∧ (D0 :: addss gs).Nodup ∧ okGs gs = true,
    ⟨ds.length, by simp, Nat.zero_le _, T1.put D0 (.lst []), [], [], rfl, (Grow.put g1.ok hD).s, same_new hD, F1.put (g1.ok.i_none hD) (F1.fresh hD), g1.ok.i_none hD, upd_same, rfl, .nil, (fun b m => by rw [addss] at m; cases m), by rw [addss]; exact List.nodup_cons.mpr ⟨List.not_mem_nil, List.nodup_nil⟩, rfl⟩, ?_⟩
  rintro i m H2 ⟨rfl, hle, T2, vs, gs, rfl, gw, sh, F2, hDi, hDh, eg, rr, fr, nd, ok⟩
  obtain ⟨w1, w2⟩ := W T2 i gw.xi gw.xn gw.ok
  have hD2 : T.h D0 = none := Same.free g1.ex hD
  cases e : ds[i]? with
  | none =>
    refine .inl ⟨w2 e, ?_⟩
    rw [List.take_of_length_le (List.getElem?_eq_none_iff.mp e)] at eg
    refine q (.ref D0) (.ls D0 gs) T2 ⟨gw.ok, g1.ex.trans sh, g1.xi.trans gw.xi, g1.xn.trans gw.xn, fun a h1 h2 => gw.fi a (g1.fi a h1 h2) (Same.some g1.ex h2), fun a h1 h2 => gw.fn a (g1.fn a h1 h2) (Same.some g1.ex h2)⟩ (by rw [erase, eg]) (.ls hDh rr) (fun b mb => ?_) ⟨by rw [adds]; exact nd, by rw [okG]; exact ok⟩
    rw [adds] at mb
    rcases List.mem_cons.mp mb with rfl | mb
    · exact ⟨hD2, hDi⟩
    · exact ⟨Same.free g1.ex (fr b mb).1, (fr b mb).2⟩
  | some d =>
    obtain ⟨go, yld⟩ := w1 d e
    have hlt := (List.getElem?_eq_some_iff.mp e).1
    have hmem : d ∈ ds := List.mem_of_getElem? e
    have htake : ds.take (i + 1) = ds.take i ++ [d] := by rw [List.take_add_one, e]; rfl
    refine .inr ⟨go, fun H3 => ∃ T3 vs3 gs3, T3.h = H3 ∧ Gs T1 T3 ∧ Same T1.h T3.h ∧ Fr X.K T3 σ ρ ∧ T3.i D0 = none ∧ T3.h D0 = some (.lst vs3) ∧ erases gs3 = ((ds.take (i + 1)).filter Tst).map f ∧ AtGs X.K (T3.at l') T3.h vs3 gs3 ∧
        (∀ b, b ∈ addss gs3 → T1.h b = none ∧ T3.i b = none) ∧ (D0 :: addss gs3).Nodup ∧ okGs gs3 = true,
      fun H3 ⟨T3, vs3, gs3, h⟩ => ⟨ds.length - (i + 1), by omega, rfl, by omega, T3, vs3, gs3, h⟩, fun x H' yv => ?_⟩
    obtain ⟨T3, rfl, g3, r3⟩ := yld x H' yv
    have F3 := F2.grow g3
    refine hg d hmem T3 (L2.wipe σ own) x _ (F3.wipeL own) r3 fun σ4 hw F4 => ⟨by rw [hw, hww], ?_⟩
    refine ht d hmem T3 σ4 _ F4 fun T5 g5 => ?_
    have g35 := g3.trans g5
    cases ev : Tst d with
    | false =>
      refine iteF ⟨T5, vs, gs, rfl, gw.trans g35.s, sh.trans g35.ex, F2.grow g35, g35.fi D0 hDi (by rw [hDh]; intro z; cases z), g35.ex _ _ hDh, ?_, rr.mono (g35.at l') g35.ex, fun b mb => ⟨(fr b mb).1, g35.fi b (fr b mb).2 (rr.dom b mb)⟩, nd, ok⟩
      rw [htake, List.filter_append, List.filter_cons_of_neg (by rw [ev]; exact Bool.false_ne_true), List.filter_nil, List.append_nil]
      exact eg
    | true =>
      refine iteT (he d hmem ev T5 σ4 _ (F4.grow g5) fun v g6' T6 g6 e6 r6 m6 nd6 => ?_)
      have g36 := g35.trans g6
      have hDi6 := g36.fi D0 hDi (by rw [hDh]; intro z; cases z)
      have hDh6 := g36.ex _ _ hDh
      have hD5 : T5.h D0 ≠ none := by rw [g35.ex _ _ hDh]; intro z; cases z
      have nD6 : D0 ∉ adds g6' := fun mb => hD5 (m6 D0 mb).1
      have nz : gs.length ≤ i := by
        rw [← erases_length, eg, List.length_map]
        exact Nat.le_trans (List.length_filter_le _ _) (by rw [List.length_take]; omega)
      have n2 := List.nodup_cons.mp nd
      have rr6 := rr.mono (g36.at l') g36.ex
      refine ⟨vs, hDh6, by rw [rr.length]; exact small_lt (by omega), T6.put D0 (.lst (vs ++ [v])), vs ++ [v], gs ++ [g6'], rfl, (gw.trans g36.s).trans (Gs.put g36.ok hDi6), ?_, ?_, hDi6, upd_same, ?_, ?_, fun b mb => ?_, ?_, ?_⟩
      · exact same_into (sh.trans g36.ex) hD
      · exact (F2.grow g36).put hDi6 (F1.fresh hD)
      · rw [htake, List.filter_append, List.filter_cons_of_pos ev, List.filter_nil, List.map_append, erases_append, eg, erases, e6, erases]
        rfl
      · have z := AtGs.append (rr6.off (o := .lst (vs ++ [v])) n2.1) (.cons (r6.off (o := .lst (vs ++ [v])) nD6) .nil)
        cases l' with
        | full => cases hl'
        | imm => exact z
        | frs => exact z
      · rw [addss_append, addss, addss, List.append_nil] at mb
        rcases List.mem_append.mp mb with mb | mb
        · exact ⟨(fr b mb).1, g36.fi b (fr b mb).2 (rr.dom b mb)⟩
        · exact ⟨Same.free (sh.trans g35.ex) (m6 b mb).1, (m6 b mb).2⟩
      · rw [addss_append, addss, addss, List.append_nil]
        refine List.nodup_cons.mpr ⟨fun mb => ?_, List.nodup_append.mpr ⟨n2.2, nd6.nd, fun a ma b mb e => ?_⟩⟩
        · rcases List.mem_append.mp mb with mb | mb
          · exact n2.1 mb
          · exact nD6 mb
        · subst e
          exact (rr.mono (Same.refl _) g35.ex).dom a ma (m6 a mb).1
      · have key : ∀ (xs ys : List G), okGs xs = true → okGs ys = true → okGs (xs ++ ys) = true := by
          intro xs
          induction xs with
          | nil => intro ys _ h; exact h
          | cons a r ih =>
            intro ys h1 h2
            rw [okGs, Bool.and_eq_true] at h1
            rw [List.cons_append, okGs, h1.1, ih ys h1.2 h2]
            rfl
        exact key _ _ ok (by rw [okGs, nd6.ok]; rfl)
variable {scope : Scope} {elt tg iter : Expr} {ifs : List Expr}
theorem ju_lc {own : List (Str × Nat)} {l' : Lv} {Tst : D → Bool} {f : D → D} {ρd : D → PEnv} (hi : JI X tg iter l ρ ds)
    (hg : ∀ d, d ∈ ds → ∀ s H C cl fp, JGb (Blk X s H scope C cl fp) tg l d (own.map (·.2)) (wipeL ρ (own.map (·.2))) (ρd d))
    (ht : ∀ d, d ∈ ds → ∀ s H C cl fp, JTs (Blk X s H scope C cl fp) ifs (ρd d) (Tst d))
    (he : ∀ d, d ∈ ds → Tst d = true → ∀ s H C cl fp, JU (Blk X s H scope C cl fp) l' elt (ρd d) (f d)) (hN : X.N.Nodup) (ok : BlkOk X.N X.env.scope scope own) (hz : ds.length ≤ 100000) (hl' : Lv.le l' .imm = true := by rfl) (hc : X.calm = true := by rfl)
    (hs : ∀ x, foldedSetIterable iter X.env x = pure x := by exact fs_ns rfl) : JU X l' (.ListComp elt [⟨tg, iter, ifs, 0⟩] scope pos) ρ (.lst ((ds.filter Tst).map f)) :=
  fun T σ Q F q pins s I => (pe_lc (own := own) (g := fun v σ H Q => ∀ s H0 C cl fp, wG (Blk X s H0 scope C cl fp) tg v σ H Q) (tt := fun σ H Q => ∀ s H0 C cl fp, wTs (Blk X s H0 scope C cl fp) ifs σ H Q) (te := fun σ H Q => ∀ s H0 C cl fp, wE (Blk X s H0 scope C cl fp) elt σ H Q) hc hN pi_w ok
      (fun s H C cl fp => ⟨fun pins s' σ H' v u Q I r h => h s H C cl fp pins s' u I r⟩) (fun s H C cl fp => ⟨fun pins s' σ H' Q I h => h s H C cl fp pins s' I⟩) (fun s H C cl fp => ⟨fun pins s' σ H' Q I h => h s H C cl fp pins s' I⟩) hs).run pins s σ T.h Q I
    (lcU_run hl' hi (fun d hd T σ v Q F r q s H C cl fp => hg d hd s H C cl fp T σ v Q F r q) (fun d hd T σ Q F q s H C cl fp => ht d hd s H C cl fp T σ Q F q) (fun d hd ht' T σ Q F q s H C cl fp => he d hd ht' s H C cl fp T σ Q F q) hz T σ Q F q)
end
end Lf

set_option Elab.async false
set_option linter.all false
set_option maxRecDepth 100000
set_option maxHeartbeats 2000000
set_option autoImplicit false
namespace Lf
open PySem L2
/-- a comprehension bound to a name that is no plain local -/
theorem sw_lc {elt : Expr} {gens : List Comprehension} {scope : Scope} {pos : Pos} {t : Str} {p : Pos} {n : Nat} {env : Env} (h : (env.kindOf t == some .local) = false) : swapsWith (.ListComp elt gens scope pos) (some (.Name t p)) n env = pure false := by
  show (pure (env.blockKind == .function && env.kindOf t == some .local && p.line == pos.line && !(scope.names.any fun (x : Str × NameKind) => x.1 == t && (x.2 == .local || x.2 == .cell))) : Sem Bool) = pure false
  rw [h, Bool.and_false, Bool.false_and, Bool.false_and]
/-! ### own things as values that stay, while nothing changes -/
def frzE : Option E → Option E
  | some (.ownI ns) => some (.v .imm (.il ns))
  | some (.own _ ds) => some (.v .imm (.lst ds))
  | some (.tr _ g) => some (.v .imm (erase g))
  | some (.v l d) => some (.v l d)
  | _ => none
theorem frzE_v {o : Option E} {e : E} (h : frzE o = some e) : ∃ l d, e = .v l d := by
  unfold frzE at h
  split at h <;> first | (cases h; exact ⟨_, _, rfl⟩) | cases h
theorem Fr.frz {K : PySem.W.Frag} {T : W3} {σ : L2.St} {ρ : PEnv} (F : Fr K T σ ρ) : Fr K ⟨T.h, T.n, T.h⟩ σ (ρ.map frzE) := by
  have get : ∀ {i : Nat} {e : E}, (ρ.map frzE)[i]? = some (some e) → ∃ o, ρ[i]? = some o ∧ frzE o = some e := fun {i e} h => by
    rw [List.getElem?_map] at h
    cases q : ρ[i]? with
    | none => rw [q] at h; cases h
    | some o => rw [q] at h; exact ⟨o, rfl, Option.some.inj h⟩
  have nv : ∀ {i : Nat} {e : E}, (ρ.map frzE)[i]? = some (some e) → ∃ l d, e = .v l d := fun {i e} h => by
    obtain ⟨o, _, h2⟩ := get h
    exact frzE_v h2
  refine ⟨⟨F.ok.ni.trans F.ok.ih, Same.refl _⟩, by rw [List.length_map]; exact F.len, fun i e h => ?_, fun i j e e' a h1 h2 o1 => ?_, fun i j e e' a h1 h2 m1 => ?_, fun i j e e' a h1 h2 m1 => ?_⟩
  · obtain ⟨o, h1, h2⟩ := get h
    cases o with
    | none => cases h2
    | some e0 =>
      obtain ⟨v, h3, h4⟩ := F.val i e0 h1
      refine ⟨v, h3, ?_⟩
      cases e0 with
      | v l d =>
        cases h2
        refine ⟨h4.1, ?_⟩
        cases l with
        | full => exact absurd rfl h4.1
        | imm => exact h4.2.mono F.ok.ih
        | frs => exact h4.2
      | ownI ns =>
        cases h2
        obtain ⟨a, rfl, h5, _⟩ := h4
        exact ⟨by decide, .il h5⟩
      | own l ds =>
        cases h2
        obtain ⟨_, a, vs, rfl, h5, _, r⟩ := h4
        exact ⟨by decide, .lst h5 (r.mono F.ok.full)⟩
      | tr l g =>
        cases h2
        exact ⟨by decide, h4.2.1.rp (F.ok.full (a := l)) fun _ _ => rfl⟩
      | dI _ _ => cases h2
      | dT _ _ => cases h2
      | dF _ _ _ _ _ => cases h2
  · obtain ⟨l, d, rfl⟩ := nv h1
    cases o1
  · obtain ⟨l, d, rfl⟩ := nv h1
    cases m1
  · obtain ⟨l, d, rfl⟩ := nv h1
    cases m1
section
variable {X : Cx} {e a b c : Expr} {es : List Expr} {ρ ρ1 : PEnv} {d d1 d2 d3 : D} {l la lb lc : Lv} {pos p p2 : Pos} {i j k : Int} {ns ms : List Int} {ds fs : List D} {kt : Nat} {x y z : Str} {st : Stmt} {sts : List Stmt} {P : PEnds}
theorem JE.frz (h : JE X .frs e ρ1 d) (hr : ρ1 = ρ.map frzE := by rfl) : JE X .frs e ρ d := fun T σ Q F q => by
  subst hr
  refine h ⟨T.h, T.n, T.h⟩ σ Q F.frz fun v T' g r => ?_
  have sn : Same T.i T'.h := F.ok.ih.trans g.ex
  have sm : Same T'.n T'.h := g.ok.ni.trans g.ok.ih
  have fr : ∀ a, T.i a = none → T.h a ≠ none → T'.n a = none := fun a h1 h2 => g.fn a (F.ok.n_none' h1) h2
  refine q v ⟨uni T.i T'.n, T'.n, T'.h⟩ ⟨⟨uni_rc sn sm, uni_to sn sm⟩, g.ex, uni_l, g.xn, fun a h1 h2 => ?_, fun a h1 h2 => g.fn a h1 h2⟩ r
  show uni T.i T'.n a = none
  rw [uni_right h1]
  exact fr a h1 h2
theorem JT.frz {v : Bool} (h : JT X e ρ1 v) (hr : ρ1 = ρ.map frzE := by rfl) : JT X e ρ v := fun T σ Q F q => by
  subst hr
  refine h ⟨T.h, T.n, T.h⟩ σ Q F.frz fun T' g => ?_
  have sn : Same T.i T'.h := F.ok.ih.trans g.ex
  have sm : Same T'.n T'.h := g.ok.ni.trans g.ok.ih
  refine q ⟨uni T.i T'.n, T'.n, T'.h⟩ ⟨⟨uni_rc sn sm, uni_to sn sm⟩, g.ex, uni_l, g.xn, fun a h1 h2 => ?_, fun a h1 h2 => g.fn a h1 h2⟩
  show uni T.i T'.n a = none
  rw [uni_right h1]
  exact g.fn a (F.ok.n_none' h1) h2
/-! ### list(range(..)) -/
theorem rgV_rngI (lo hi : Int) : rgV lo hi = (rngI lo (hi - lo).toNat).map V.int := by
  unfold rgV rngI
  rw [List.map_map]
  rfl
theorem joi_listRg {p1 p2 : Pos} (hm : X.mg "list" = none) (hm2 : X.mg "range" = none) (ha : JE X la a ρ (.int i)) (hz : 0 ≤ i ∧ i ≤ 100000) (hc : X.calm = true := by rfl) (hg : Gl X "list" := by rfl) (hg2 : Gl X "range" := by rfl)
    (n1 : starEach [a] X.env = (false, eval a X.env) :: starEach [] X.env := by exact star_c rfl) : JOI X (.Call (.Name "list" p) [.Call (.Name "range" p1) [a] [] p2] [] pos) ρ (rngI 0 i.toNat) :=
  JOI.of (pe_listRg hc hg hm (prg_1 hg2 hm2 pe_w n1) (star_c rfl)) fun T σ Q F q => ha T σ _ F fun v T1 g1 r1 => by
    cases r1
    refine ⟨i, rfl, RgOk.of_le (by omega) (by omega) (by omega) (by omega), fun r hr => ?_⟩
    rw [rgV_rngI, Int.sub_zero]
    exact q r (T1.put r _) (g1.trans (Grow.put g1.ok hr)) (Same.free g1.ex hr) (g1.ok.i_none hr) upd_same
theorem joi_listRg2 {p1 p2 : Pos} (hm : X.mg "list" = none) (hm2 : X.mg "range" = none) (ha : JE X la a ρ (.int i)) (hb : JE X lb b ρ (.int j)) (hz : 0 ≤ i ∧ i ≤ 100000 ∧ 0 ≤ j ∧ j ≤ 100000) (hc : X.calm = true := by rfl) (hg : Gl X "list" := by rfl) (hg2 : Gl X "range" := by rfl)
    (n1 : starEach [a, b] X.env = (false, eval a X.env) :: starEach [b] X.env := by exact star_c rfl) (n2 : starEach [b] X.env = (false, eval b X.env) :: starEach [] X.env := by exact star_c rfl) (hp : (backTo p2 (starEach [b] X.env)).any (·.1) = false := by exact back_ns rfl) :
    JOI X (.Call (.Name "list" p) [.Call (.Name "range" p1) [a, b] [] p2] [] pos) ρ (rngI i (j - i).toNat) :=
  JOI.of (pe_listRg hc hg hm (prg_2 hg2 hm2 pe_w pe_w n1 n2 hp) (star_c rfl)) fun T σ Q F q => ha T σ _ F fun v T1 g1 r1 => by
    cases r1
    refine hb T1 σ _ (F.grow g1) fun u T2 g2 r2 => ?_
    cases r2
    have g := g1.trans g2
    refine ⟨i, j, rfl, rfl, RgOk.of_le (by omega) (by omega) (by omega) (by omega), fun r hr => ?_⟩
    rw [rgV_rngI]
    exact q r (T2.put r _) (g.trans (Grow.put g.ok hr)) (Same.free g.ex hr) (g.ok.i_none hr) upd_same
/-! ### names bound to comprehensions over ints -/
def dF (f : Int → Int) (d : D) : Int := match d with | .int k => f k | _ => 0
theorem dF_map (f : Int → Int) (ns : List Int) : ((ns.map D.int).filter fun _ => true).map (dF f) = ns.map f := by
  rw [List.filter_eq_self.mpr (fun _ _ => rfl), List.map_map]
  rfl
theorem js_mapVI (m : Nat) {scope : Scope} {elt tg iter : Expr} {w : Str} {n : Nat} {f : Int → Int} {py : Pos} {spos : Pos} (hi : JI X tg iter .frs ρ (ns.map D.int))
    (hg : ∀ k s H C cl fp, JGb (Blk X s H scope C cl fp) tg .frs (.int k) [n] (wipeE ρ n) ((wipeE ρ n).set n (some (.v .frs (.int k)))))
    (he : ∀ k, k ∈ ns → ∀ s H C cl fp, JE (Blk X s H scope C cl fp) .frs elt ((wipeE ρ n).set n (some (.v .frs (.int k)))) (.int (f k))) (h : P.nx (ρ.set m (some (.v .frs (.il (ns.map f)))))) (hN : X.N.Nodup) (ok : BlkOk X.N X.env.scope scope [(w, n)]) (hz : ns.length ≤ 100000)
    (hy : X.N[m]? = some y := by rfl) (hyl : X.env.scope.names.lookup y = some .local := by rfl) (hsw : swapsWith (.ListComp elt [⟨tg, iter, [], 0⟩] scope pos) (some (.Name y py)) spos.line X.env = pure true := by exact sw_true rfl rfl rfl (by decide +kernel))
    (hc : X.calm = true := by rfl) (hs : ∀ x, foldedSetIterable iter X.env x = pure x := by exact fs_ns rfl) : JS X (.Assign [.Name y py] (.ListComp elt [⟨tg, iter, [], 0⟩] scope pos) spos) P ρ := by
  have q := js_lcVI (X := X) (P := P) (ρ := ρ) m (own := [(w, n)]) (Tst := fun _ => true) (f := dF f) (ρd := fun d => (wipeE ρ n).set n (some (.v .frs d))) (pos := pos) (py := py) (spos := spos) hi
    (fun d hd s H C cl fp => by
      obtain ⟨k, _, rfl⟩ := List.mem_map.mp hd
      exact hg k s H C cl fp)
    (fun _ _ _ _ _ _ _ => jts_nil)
    (fun d hd _ s H C cl fp => by
      obtain ⟨k, hk, rfl⟩ := List.mem_map.mp hd
      exact he k hk s H C cl fp) (by rw [dF_map]; exact h) hN ok (by rw [List.length_map]; exact hz) hy hyl hsw hc hs
  exact q
end
end Lf

set_option Elab.async false
set_option linter.all false
set_option maxRecDepth 100000
set_option maxHeartbeats 2000000
set_option autoImplicit false
namespace Lf
open PySem L2
/-! ### dicts with tuples of ints as keys -/
theorem tupK {K : PySem.W.Frag} {H : Hp} {v : V} {ks : List Int} (r : Rp K H v (.tup (ks.map D.int))) : ∃ b, v = .ref b ∧ H b = some (.tup ((ks.map Sum.inl : List Key).map kV)) := by
  cases r with
  | tup h ra =>
    have e := ra.of_il
    subst e
    exact ⟨_, rfl, by rw [List.map_map]; exact h⟩
/-- a display with one pair, its key a tuple -/
def tDispT (tk tv : TE) : TE := fun σ H Q => ∀ p, H p = none → tk σ (upd H p (.dT [])) fun x H1 => tv σ H1 fun y H2 => H2 p = some (.dT []) ∧ ∃ (ks : List Key) (b : Addr), x = .ref b ∧ H2 b = some (.tup (ks.map kV)) ∧ Q (.ref p) (upd H2 p (.dT [(ks, y)]))
theorem pe_dispT {X : Cx} {k v : Expr} {pos : Pos} {tk tv : TE} (hu : X.A.units + 1 < cLine) (hk : PE X k tk) (hv : PE X v tv) : PE X (.Dict [some k] [v] pos) (tDispT tk tv) := by
  refine ⟨fun pins s σ H Q I q => ?_⟩
  have hn := I.hok.fresh (Nat.le_refl s.heap.objs.size)
  have J := I.laid (a := s.heap.objs.size) (o := .dT []) (h' := s.heap.push { cls := .type "dict", data := .dict #[] }) (t' := s.toks) (fun _ _ z => Heap.get?_push_of_some _ z) (Nat.le_refl _) (dt_empty s.heap I.big)
  have pp : PPs X pos [some k] [v] [(tk, tv)] := pps_cons hk hv pps_nil
  have walk := pp.run pins _ σ _ (fun ps H2 => ∃ x y, ps = [(x, y)] ∧ H2 s.heap.objs.size = some (.dT []) ∧ ∃ (ks : List Key) (b : Addr), x = .ref b ∧ H2 b = some (.tup (ks.map kV)) ∧ Q (.ref s.heap.objs.size) (upd H2 s.heap.objs.size (.dT [(ks, y)]))) J
    (by
      have z := q _ hn
      have e : ∀ (x y : V) (H2 : Hp), (H2 s.heap.objs.size = some (.dT []) ∧ ∃ (ks : List Key) (b : Addr), x = .ref b ∧ H2 b = some (.tup (ks.map kV)) ∧ Q (.ref s.heap.objs.size) (upd H2 s.heap.objs.size (.dT [(ks, y)]))) =
          (∃ x' y', [(x, y)] = [(x', y')] ∧ H2 s.heap.objs.size = some (.dT []) ∧ ∃ (ks : List Key) (b : Addr), x' = .ref b ∧ H2 b = some (.tup (ks.map kV)) ∧ Q (.ref s.heap.objs.size) (upd H2 s.heap.objs.size (.dT [(ks, y')]))) := fun x y H2 => propext
        ⟨fun h => ⟨x, y, rfl, h⟩, fun ⟨x', y', e, h⟩ => by cases e; exact h⟩
      have e2 : (fun (x : V) (H1 : Hp) => tv σ H1 fun y H2 => (H2 s.heap.objs.size = some (.dT []) ∧ ∃ (ks : List Key) (b : Addr), x = .ref b ∧ H2 b = some (.tup (ks.map kV)) ∧ Q (.ref s.heap.objs.size) (upd H2 s.heap.objs.size (.dT [(ks, y)])))) =
          (fun (x : V) (H1 : Hp) => tv σ H1 fun y H2 => (∃ x' y', [(x, y)] = [(x', y')] ∧ H2 s.heap.objs.size = some (.dT []) ∧ ∃ (ks : List Key) (b : Addr), x' = .ref b ∧ H2 b = some (.tup (ks.map kV)) ∧ Q (.ref s.heap.objs.size) (upd H2 s.heap.objs.size (.dT [(ks, y')])))) :=
        funext fun x => funext fun H1 => congrArg (tv σ H1) (funext fun y => funext fun H2 => e x y H2)
      rw [e2] at z
      exact z)
  rw [arm_eval_Dict [some k] [v] pos X.env, zip_pairTrees [some k] [v] X.env pos rfl rfl, dictDisplay_pairs (pairTrees [some k] [v] X.env pos) (by intro z; cases z) (by show 1 < 17; decide)]
  refine wpAny_bind (wpAny_standAt (wpAny_bind (wpAny_subDictH (knd := tupleKind (mixKind X.prog X.w)) (Q := fun d s' => wpAny (model X.prog X.w) X.A (pure (Value.ref d)) (EP X pins σ Q) X.xe s') (show X.A.units < cLine from Nat.lt_of_succ_lt hu) (by show 1 ≤ 15; decide) ?_)))
  refine wpAny_mono walk (fun ws s2 hw => ?_) fun _ _ z => z
  obtain ⟨ps, H2, I2, rel, x, y, rfl, e0, ks, b, rfl, eb, q2⟩ := hw
  cases rel with
  | cons hd tl =>
    cases tl
    rename_i w2
    obtain ⟨u1, u2⟩ := w2
    obtain ⟨r1, r2⟩ := hd
    cases (show u1 = Value.ref b from r1)
    obtain ⟨z, hdd, xs, rel2, dd⟩ := dt_of I2.hok e0
    cases rel2
    refine ⟨[(ks, b, u2)], ⟨rfl, rfl, key_of I2.hok eb, trivial⟩, dd, fun h' tk' dd' hs => wpAny_pure ⟨.ref s.heap.objs.size, _, ?_, rfl, q2⟩⟩
    obtain ⟨o, es, ep, ho, h2, h3, h4, _, h5⟩ := dd'
    refine d_write I2 (by rw [e0]; exact True.intro) hs ⟨o, ho⟩ ⟨by show 1 ≤ sizeLine; rw [sizeLine_eq]; decide, hdd, [(ks, b, u2)], KT.keeps (H := H2) (.cons ⟨rfl, eb, r2⟩ .nil) (fun c ys ec => ?_), o, es, ep, ho, h2, h3, h4, h5⟩
    rw [upd_ne (ne_of ec e0 (fun z => nomatch z))]
    exact ec
section
variable {X : Cx} {e a b c : Expr} {es : List Expr} {ρ ρ1 : PEnv} {d d1 d2 d3 : D} {l la lb lc : Lv} {pos p p2 : Pos} {i j k : Int} {ns ms : List Int} {ds fs : List D} {kt : Nat} {x y z : Str} {st : Stmt} {sts : List Stmt} {P : PEnds} {kvs : List (List Int × D)} {ks : List Int}
/-- x = {k: v} -/
theorem js_setDT1 (n : Nat) {p' : Pos} {kx vx : Expr} (hu : X.A.units + 1 < cLine) (hk : JE X la kx ρ (.tup (ks.map D.int))) (hv : JE X l vx ρ d) (h : P.nx (ρ.set n (some (.dT l [(ks, d)])))) (hl : l ≠ .full := by decide) (hN : X.N.Nodup) (hi : X.N[n]? = some x := by rfl) (hx : Loc X.env.scope x := by first | exact Or.inl rfl | exact Or.inr rfl)
    (hs : swapsWith (.Dict [some kx] [vx] p) (some (.Name x p')) pos.line X.env = pure false := by exact sw_ns rfl) (hf : X.fn x = true ∨ X.env.scope.names.lookup x = some .local := by exact Or.inl rfl) : JS X (.Assign [.Name x p'] (.Dict [some kx] [vx] p) pos) P ρ :=
  JS.of (ps_set (i := n) hN hi hx (pe_dispT hu pe_w pe_w) hs hf) fun T σ D F m => fun a ha => by
    have g0 : Grow T (T.put a (.dT [])) := Grow.put F.ok ha
    refine hk (T.put a (.dT [])) σ _ (F.grow g0) fun w T1 g1 r1 => hv T1 σ _ (F.grow (g0.trans g1)) fun u T2 g2 r2 => ?_
    have g12 := g1.trans g2
    obtain ⟨b, rfl, hb⟩ := tupK ((r1.mono g1.ok.full).mono g2.ex)
    have ha2 : T2.h a = some (.dT []) := g12.ex _ _ upd_same
    have hi2 : T2.i a = none := g12.fi a (F.ok.i_none ha) (by show upd T.h a _ a ≠ none; rw [upd_same]; intro z; cases z)
    refine ⟨ha2, _, b, rfl, hb, ?_⟩
    have g := g0.trans g12
    refine m.nx _ _ (T2.put a (.dT [(ks.map Sum.inl, u)])) (g.w.trans (Gw.put g.ok hi2)) (((F.grow g).put hi2 (F.fresh ha)).setOwn (e := .dT l [(ks, d)]) ⟨hl, a, _, rfl, upd_same, hi2, ?_⟩ (F.fresh ha)) h
    have z : RpK keyT X.K (T2.at l) [(keyT ks, u)] [(ks, d)] := .cons r2 .nil
    cases l with
    | full => exact absurd rfl hl
    | imm => exact z
    | frs => exact z
/-- the look of a dict's name: as it is, or locked -/
def IsDT (e : E) (l : Lv) (kvs : List (List Int × D)) : Prop := e = .dT l kvs ∨ ∃ a o ws, e = .dF a o ws l kvs
theorem Fr.rd {K : PySem.W.Frag} {T : W3} {σ : L2.St} {ρ : PEnv} (F : Fr K T σ ρ) {n : Nat} {e : E} (he : ρ[n]? = some (some e)) (hd : IsDT e l kvs) : ∃ a ws, σ[n]? = some (some (V.ref a)) ∧ Rd T.h a (.dT ws) ∧ RpK keyT K (T.at l) ws kvs := by
  obtain ⟨v, h1, h2⟩ := F.val n _ he
  rcases hd with rfl | ⟨a, o, ws, rfl⟩
  · obtain ⟨_, a, ws, rfl, h3, _, r⟩ := h2
    exact ⟨a, ws, h1, .inl h3, r⟩
  · obtain ⟨_, rfl, h3, _, r⟩ := h2
    exact ⟨a, ws, h1, .inr ⟨o, h3⟩, r⟩
theorem Rd.mono {H H' : Hp} {a : Addr} {u : HO} (e : Same H H') (h : Rd H a u) : Rd H' a u := by
  rcases h with h | ⟨o, h⟩
  · exact .inl (e _ _ h)
  · exact .inr ⟨o, e _ _ h⟩
theorem jc_inT (n : Nat) {q : E} (hu : X.A.units + 1 < cLine) (hk : JE X lb b ρ (.tup (ks.map D.int))) (hr : ρ[n]? = some (some q)) (hq : IsDT q l kvs) (hN : X.N[n]? = some x := by rfl)
    (hv : Vis X.env.scope x := by first | exact Or.inl rfl | exact Or.inr (Or.inl rfl) | exact Or.inr (Or.inr rfl)) (hd : (x == ("__debug__" : Str)) = false := by decide) (hcd : (x == ("__classdict__" : Str)) = false := by decide) : JC X .In b (.Name x p) ρ (lookP kvs ks).isSome :=
  fun T σ Q F k pins s I => (pc_din hu pe_w (pe_var hN hv hd hcd)).run pins s σ T.h Q I (hk T σ _ F fun u T1 g1 r1 => by
    obtain ⟨a, ws, h1, h2, rr⟩ := (F.grow g1).rd hr hq
    obtain ⟨b, rfl, hb⟩ := tupK (r1.mono g1.ok.full)
    refine ⟨_, h1, a, _, rfl, .inr ⟨ws, ks.map Sum.inl, b, h2, rfl, hb, rfl⟩, ?_⟩
    rcases RpK.look inj_T ks rr with ⟨z1, z2⟩ | ⟨v, d', z1, z2, z3⟩
    · have z1' : valV ws (ks.map Sum.inl) = none := z1
      rw [z1']
      rw [z2] at k
      exact k T1 g1
    · have z1' : valV ws (ks.map Sum.inl) = some v := z1
      rw [z1']
      rw [z2] at k
      exact k T1 g1)
theorem jc_notinT (n : Nat) {q : E} (hu : X.A.units + 1 < cLine) (hk : JE X lb b ρ (.tup (ks.map D.int))) (hr : ρ[n]? = some (some q)) (hq : IsDT q l kvs) (hN : X.N[n]? = some x := by rfl)
    (hv : Vis X.env.scope x := by first | exact Or.inl rfl | exact Or.inr (Or.inl rfl) | exact Or.inr (Or.inr rfl)) (hd : (x == ("__debug__" : Str)) = false := by decide) (hcd : (x == ("__classdict__" : Str)) = false := by decide) : JC X .NotIn b (.Name x p) ρ (!(lookP kvs ks).isSome) :=
  fun T σ Q F k pins s I => (pc_dnotin hu pe_w (pe_var hN hv hd hcd)).run pins s σ T.h Q I (hk T σ _ F fun u T1 g1 r1 => by
    obtain ⟨a, ws, h1, h2, rr⟩ := (F.grow g1).rd hr hq
    obtain ⟨b, rfl, hb⟩ := tupK (r1.mono g1.ok.full)
    refine ⟨_, h1, a, _, rfl, .inr ⟨ws, ks.map Sum.inl, b, h2, rfl, hb, rfl⟩, ?_⟩
    rcases RpK.look inj_T ks rr with ⟨z1, z2⟩ | ⟨v, d', z1, z2, z3⟩
    · have z1' : valV ws (ks.map Sum.inl) = none := z1
      rw [z1']
      rw [z2] at k
      exact k T1 g1
    · have z1' : valV ws (ks.map Sum.inl) = some v := z1
      rw [z1']
      rw [z2] at k
      exact k T1 g1)
/-- d[k], there -/
theorem je_dixT (n : Nat) {q : E} (hu : X.A.units + 1 < cLine) (hk : JE X lb b ρ (.tup (ks.map D.int))) (hr : ρ[n]? = some (some q)) (hq : IsDT q l kvs) (hl : lookP kvs ks = some d) (hN : X.N[n]? = some x := by rfl)
    (hv : Vis X.env.scope x := by first | exact Or.inl rfl | exact Or.inr (Or.inl rfl) | exact Or.inr (Or.inr rfl)) (hd : (x == ("__debug__" : Str)) = false := by decide) (hcd : (x == ("__classdict__" : Str)) = false := by decide) (hs : PlainIx b := by exact px_ns rfl) : JE X l (.Subscript (.Name x p) b pos) ρ d :=
  JE.of (pe_dget hu (pe_var hN hv hd hcd) pe_w hs) fun T σ Q F k => by
    obtain ⟨a, ws, h1, h2, rr⟩ := F.rd hr hq
    refine ⟨_, h1, hk T σ _ F fun u T1 g1 r1 => ?_⟩
    obtain ⟨b, rfl, hb⟩ := tupK (r1.mono g1.ok.full)
    rcases RpK.look inj_T ks (rr.mono (g1.at l)) with ⟨z1, z2⟩ | ⟨v, d', z1, z2, z3⟩
    · rw [z2] at hl; cases hl
    · rw [z2] at hl
      cases hl
      exact ⟨a, v, rfl, .inr ⟨ws, ks.map Sum.inl, b, Rd.mono g1.ex h2, rfl, hb, z1.symm⟩, k v T1 g1 z3⟩
/-- a pair of ints is bound to two names, wherever it is held -/
theorem jg_pairI (n m : Nat) {px py : Pos} {k1 : Nat} (hN : X.N.Nodup) (hi : X.N[n]? = some x := by rfl) (hj : X.N[m]? = some y := by rfl) (hx : Loc X.env.scope x := by first | exact Or.inl rfl | exact Or.inr rfl) (hy : Loc X.env.scope y := by first | exact Or.inl rfl | exact Or.inr rfl)
    (hf : X.fn x = true ∨ X.env.scope.names.lookup x = some .local := by exact Or.inl rfl) (hf2 : X.fn y = true ∨ X.env.scope.names.lookup y = some .local := by exact Or.inl rfl) (hc : X.calm = true := by rfl)
    (hs1 : (assignEach [.Name x px, .Name y py] X.env).map (·.2) = assign (.Name x px) X.env :: (assignEach [.Name y py] X.env).map (·.2) := by rfl) (hs2 : (assignEach [.Name y py] X.env).map (·.2) = assign (.Name y py) X.env :: (assignEach [] X.env).map (·.2) := by rfl)
    (hn : (assignEach [.Name x px, .Name y py] X.env).length = 2 := by rfl) (hst : (assignEach [.Name x px, .Name y py] X.env).findIdx? (·.1) = none := by rfl) :
    JG X (.Tuple [.Name x px, .Name y py] k1 p) l (.tup [.int i, .int j]) ρ ((ρ.set n (some (.v .frs (.int i)))).set m (some (.v .frs (.int j)))) := fun T σ v Q F r q pins s u I rv => by
  cases r with
  | tup h rr =>
    have h := SqT.of (K := X.K) h
    cases rr with
    | cons r1 rr =>
      cases rr with
      | cons r2 rr =>
        cases rr
        exact (pg_tup hc (pgs_cons (pg_name (i := n) hN hi hx hf) (pgs_cons (pg_name (i := m) hN hj hy hf2) pgs_nil hs2) hs1) hn hst).run pins s σ T.h _ u Q I rv
          ⟨_, _, rfl, seqT F.ok.full h, rfl, _, _, rfl, _, _, rfl, rfl, q _ ((F.set (l := .frs) (by decide) (r1.scal rfl)).set (l := .frs) (by decide) (r2.scal rfl))⟩
/-- for k in d: of a dict of one's own, its keys tuples of ints; the dict is locked while it is walked -/
theorem js_forKT (n : Nat) {tg : Expr} {body : List Stmt} {pn : Pos} (hr : ρ[n]? = some (some (.dT l kvs))) (inv : Addr → Obj → List (List Key × V) → List (List Int × D) → PEnv → Prop) (h0 : ∀ a o ws, inv a o ws kvs (ρ.set n (some (.dF a o ws l kvs))))
    (hn : ∀ a o ws rest ρ', inv a o ws rest ρ' → ρ'[n]? = some (some (.dF a o ws l kvs)))
    (hs : ∀ a o ws k d rest ρ', inv a o ws ((k, d) :: rest) ρ' → ∃ ρ2, JG X tg .full (.tup (k.map D.int)) ρ' ρ2 ∧ JSs X body { nx := inv a o ws rest, rt := fun _ => False, rf := fun ρ' d' => P.rt d' ∧ ρ'[n]? = some (some (.dF a o ws l kvs)), ct := inv a o ws rest } ρ2) (hd : ∀ a o ws ρ', inv a o ws [] ρ' → P.nx (ρ'.set n none))
    (hN : X.N[n]? = some x := by rfl) (hv : Vis X.env.scope x := by first | exact Or.inl rfl | exact Or.inr (Or.inl rfl) | exact Or.inr (Or.inr rfl)) (hdb : (x == ("__debug__" : Str)) = false := by decide) (hcd : (x == ("__classdict__" : Str)) = false := by decide)
    (hp : PassesOwn (model X.prog X.w) X.A X.env X.xe := by exact PassesOwn.never) (hc : X.calm = true := by rfl) : JS X (.For tg (.Name x pn) body [] pos) P ρ :=
  JS.of (ps_lock (ps_for hp hc (pi_keys (pe_var hN hv hdb hcd)) pg_w pss_w (fs_ns rfl))) fun T σ DD F m => by
    obtain ⟨v, h1, hl, a, ws, rfl, h2, h3, rr⟩ := F.val n _ hr
    refine ⟨a, .dT ws, h2, True.intro, fun od => ?_⟩
    have F0 := F.chg (o := .frz od (.dT ws)) (e1 := .dF a od ws l kvs) hr rfl h1 rfl ⟨hl, rfl, upd_same, h3, by
      cases l with
      | full => exact absurd rfl hl
      | imm => exact rr
      | frs => exact rr⟩
    have G0 : Gw T (T.put a (.frz od (.dT ws))) := Gw.put F.ok h3
    refine ⟨_, h1, a, od, rfl, .inr ⟨ws, upd_same, ?_⟩⟩
    have hlen := rr.length
    have back : ∀ (T5 : W3) (σ5 : L2.St) (ρ5 : PEnv), Gw T T5 → Fr X.K T5 σ5 ρ5 → ρ5[n]? = some (some (.dF a od ws l kvs)) → T5.h a = some (.frz od (.dT ws)) ∧ T5.i a = none ∧ Gw T (T5.put a (.dT ws)) ∧ Fr X.K (T5.put a (.dT ws)) σ5 (ρ5.set n none) := fun T5 σ5 ρ5 g5 F5 h5 => by
      obtain ⟨v5, q1, _, rfl, q2, q3, _⟩ := F5.val n _ h5
      refine ⟨q2, q3, g5.trans (Gw.put F5.ok q3), ?_⟩
      have F6 : Fr X.K T5 σ5 (ρ5.set n none) := F5.forget (by rw [List.length_set]) fun j e' hj => by
        rcases getset hj with ⟨_, q⟩ | ⟨_, q⟩
        · cases q
        · exact q
      refine F6.put q3 ⟨fun j e' hj o s => ?_, fun j e' hj mb => ?_⟩
      · rcases getset hj with ⟨_, q⟩ | ⟨nj, q⟩
        · cases q
        · exact nj (F5.sep n j _ e' a h5 q rfl o q1 s)
      · rcases getset hj with ⟨_, q⟩ | ⟨nj, q⟩
        · cases q
        · exact F5.sepO j n e' _ a q h5 mb rfl q1
    refine ⟨fun i mm σ H => mm = kvs.length - i ∧ i ≤ kvs.length ∧ ∃ T2 ρ', T2.h = H ∧ Gw T T2 ∧ Fr X.K T2 σ ρ' ∧ inv a od ws (kvs.drop i) ρ', ⟨kvs.length, by simp, Nat.zero_le _, _, _, rfl, G0, F0, h0 a od ws⟩, ?_⟩
    rintro i mm σ2 H2 ⟨rfl, hle, T2, ρ', rfl, gw, F2, hv'⟩
    have hF := hn _ _ _ _ _ hv'
    obtain ⟨v2, q1, _, rfl, q2, q3, q4⟩ := F2.val n _ hF
    cases e : kvs[i]? with
    | none =>
      have hge := List.getElem?_eq_none_iff.mp e
      refine .inl ⟨⟨q2, by omega⟩, ?_⟩
      rw [List.drop_eq_nil_of_le hge] at hv'
      obtain ⟨k1, k2, k3, k4⟩ := back T2 σ2 ρ' gw F2 hF
      exact ⟨q2, m.nx _ σ2 _ k3 k4 (hd _ _ _ _ hv')⟩
    | some kd =>
      obtain ⟨k, d⟩ := kd
      have hlt := (List.getElem?_eq_some_iff.mp e).1
      rw [drop_cons e] at hv'
      obtain ⟨ρ2, hg, hb⟩ := hs _ _ _ _ _ _ _ hv'
      refine .inr ⟨⟨q2, by omega⟩, fun σ3 H3 => ∃ T3 ρ3, T3.h = H3 ∧ Gw T T3 ∧ Fr X.K T3 σ3 ρ3 ∧ inv a od ws (kvs.drop (i + 1)) ρ3, fun σ3 H3 ⟨T3, ρ3, e3, g3, F3, v3⟩ => ⟨kvs.length - (i + 1), by omega, rfl, by omega, T3, ρ3, e3, g3, F3, v3⟩, fun y H' yv => ?_⟩
      obtain ⟨rfl, k', v', qq, hw, rfl, hq⟩ := yv
      have ek : k' = keyT k := by
        have key : ∀ {vs : List (List Key × V)} {ds : List (List Int × D)}, RpK keyT X.K (T2.at l) vs ds → ∀ (i : Nat) (k' : List Key) (v' : V) (k : List Int) (d : D), vs[i]? = some (k', v') → ds[i]? = some (k, d) → k' = keyT k := by
          intro vs ds r
          induction r with
          | nil => intro i k' v' k d h; simp at h
          | cons h r ih =>
            intro i k' v' k d h1 h2
            cases i with
            | zero =>
              simp at h1 h2
              rw [← h1.1, ← h2.1]
            | succ i => exact ih i k' v' k d (by simpa using h1) (by simpa using h2)
        exact key q4 i k' v' k d hw e
      subst ek
      have rk : Rp X.K T2.h (.ref qq) (.tup (k.map D.int)) := .tup hq (by
        unfold keyT
        rw [List.map_map]
        exact RpAll.il k)
      refine hg T2 σ2 _ _ F2 rk fun σ4 F4 => ?_
      exact hb T2 σ4 _ F4 ⟨fun ρ5 σ5 T5 g5 F5 v5 => ⟨T5, ρ5, rfl, gw.trans g5, F5, v5⟩, fun d v T5 g5 z => z.elim, fun ρ5 σ5 T5 g5 F5 z => z.elim, fun ρ5 σ5 T5 g5 F5 v5 => ⟨T5, ρ5, rfl, gw.trans g5, F5, v5⟩, fun _ _ _ _ z => z.elim,
        fun ρ5 σ5 d5 v5 T5 g5 F5 ⟨z1, z2⟩ r5 => by
          obtain ⟨k1, k2, k3, k4⟩ := back T5 σ5 ρ5 (gw.trans g5) F5 z2
          exact ⟨k1, m.rt d5 v5 (T5.put a (.dT ws)) k3 z1 r5⟩⟩
end
end Lf

set_option Elab.async false
set_option linter.all false
set_option maxRecDepth 100000
set_option maxHeartbeats 2000000
set_option autoImplicit false
namespace Lf
open PySem L2
/-! ### promises that tell what holds of the result, not which it is -/
def spUR (K : PySem.W.Frag) (pre : List D → Prop) (R : List D → D → Prop) : Sp := fun vs H Q _ => ∃ ds, RpAll K H vs ds ∧ pre ds ∧
  ∀ v g H' Hn, Same H H' → Same Hn H' → (∀ a, Hn a ≠ none → H a = none) → R ds (erase g) → AtG K Hn H' v g → (∀ b, b ∈ adds g → H b = none ∧ Hn b = none) → Nd g → Q v H'
structure CalleeUR (P : Program) (w : World) (K : PySem.W.Frag) (mg : Str → Option Value) (base : Heap) (k : Nat) (x : Str) (pre : List D → Prop) (R : List D → D → Prop) : Prop where
  ex : ∃ (f : Addr) (fd : FuncData) (ps : List Str), FnOk P w K mg base CX0 k f fd ps (spUR K pre R) ∧ mg x = some (.ref f) ∧ PySem.W.keepIn K (.ref f) = true ∧ Binds K fd ps []
/-- e comes to some value of R; to a new tree of R -/
def JER (X : Cx) (e : Expr) (ρ : PEnv) (R : D → Prop) : Prop :=
  ∀ (T : W3) (σ : L2.St) (Q : VK), Fr X.K T σ ρ → (∀ v d T', Grow T T' → R d → Rp X.K T'.n v d → Q v T'.h) → wE X e σ T.h Q
def JUR (X : Cx) (e : Expr) (ρ : PEnv) (R : D → Prop) : Prop :=
  ∀ (T : W3) (σ : L2.St) (Q : VK), Fr X.K T σ ρ → (∀ v g T', Grow T T' → R (erase g) → AtG X.K T'.n T'.h v g → (∀ b, b ∈ adds g → T.h b = none ∧ T'.i b = none) → Nd g → Q v T'.h) → wE X e σ T.h Q
section
variable {X : Cx} {e a b c : Expr} {es : List Expr} {ρ ρ1 : PEnv} {d d1 d2 d3 : D} {l la lb lc : Lv} {pos p p2 : Pos} {i j k : Int} {ns ms : List Int} {ds fs : List D} {kt : Nat} {x y z : Str} {st : Stmt} {sts : List Stmt} {P : PEnds} {R R' : D → Prop}
theorem JUR.jer (h : JUR X e ρ R) : JER X e ρ R := fun T σ Q F q => h T σ Q F fun v g T' G e r m nd =>
  q v _ (T'.keep (adds g)) (G.keep m) e (r.rp (H2 := (T'.keep (adds g)).n) uni_l fun b mb => keep_n G.ok mb (m b mb).2)
theorem JU.jur (h : JU X .frs e ρ d) : JUR X e ρ (fun d' => d' = d) := fun T σ Q F q => h T σ Q F fun v g T' G e r m nd => q v g T' G e r m nd
theorem JUR.imp (h : JUR X e ρ R) (hR : ∀ d, R d → R' d) : JUR X e ρ R' := fun T σ Q F q => h T σ Q F fun v g T' G e r m nd => q v g T' G (hR _ e) r m nd
theorem jur_call {m n : Nat} {pre : List D → Prop} {R : List D → D → Prop} (C : CalleeUR X.prog X.w X.K X.mg X.base m x pre R) (hr : Room n X.A) (ha : JA X .full (e :: es) ρ ds) (hp : pre ds) (hk : m ≤ n := by decide) (hg : Gl X x := by rfl) (hdb : (x == ("__debug__" : Str)) = false := by decide)
    (he : starEach (e :: es) X.env = (false, eval e X.env) :: starEach es X.env := by exact star_c rfl) (hpl : (backTo pos (starEach es X.env)).any (·.1) = false := by exact back_ns rfl) : JUR X (.Call (.Name x p) (e :: es) [] pos) ρ (R ds) := by
  obtain ⟨f, fd, ps, F, hm, hkp, hb⟩ := C.ex
  intro T σ Q Fm q pins s I
  refine (pe_call F (hr.mono hk) hg hm hkp hb .nil pass0 pa_w hdb he hpl).run pins s σ T.h Q I (ha T σ _ Fm fun vs T1 g1 r1 => ?_)
  refine ⟨ds, by rw [List.append_nil]; exact r1, hp, fun v g H' Hn h1 h2 dj eg rg fr nd => q v g ⟨uni T1.i Hn, uni T1.n Hn, H'⟩ (g1.trans (Grow.called g1.ok h1 h2 dj)) eg (rg.mono (uni_r fun a h => g1.ok.n_none (dj a h)) (Same.refl _)) (fun b mb => ⟨Same.free g1.ex (fr b mb).1, ?_⟩) nd⟩
  show uni T1.i Hn b = none
  rw [uni_right (g1.ok.i_none (fr b mb).1)]
  exact (fr b mb).2
theorem js_setUR (n : Nat) {p' : Pos} (he : JUR X e ρ R) (h : ∀ g, R (erase g) → okG g = true → P.nx (ρ.set n (some (.tr .frs g)))) (hN : X.N.Nodup) (hi : X.N[n]? = some x := by rfl) (hx : Loc X.env.scope x := by first | exact Or.inl rfl | exact Or.inr rfl)
    (hs : swapsWith e (some (.Name x p')) pos.line X.env = pure false := by exact sw_ns rfl) (hf : X.fn x = true ∨ X.env.scope.names.lookup x = some .local := by exact Or.inl rfl) : JS X (.Assign [.Name x p'] e pos) P ρ :=
  JS.of (ps_set (i := n) hN hi hx pe_w hs hf) fun T σ D F m => he T σ _ F fun v g T' G eg r q nd =>
    m.nx _ _ T' G.w ((F.grow G).setTr (l := .frs) ⟨by decide, r, fun b mb => (q b mb).2, nd.nd⟩ fun b mb => F.fresh (q b mb).1) (h g eg nd.ok)
theorem js_setR (n : Nat) {p' : Pos} (he : JER X e ρ R) (h : ∀ d, R d → P.nx (ρ.set n (some (.v .frs d)))) (hN : X.N.Nodup) (hi : X.N[n]? = some x := by rfl) (hx : Loc X.env.scope x := by first | exact Or.inl rfl | exact Or.inr rfl)
    (hs : swapsWith e (some (.Name x p')) pos.line X.env = pure false := by exact sw_ns rfl) (hf : X.fn x = true ∨ X.env.scope.names.lookup x = some .local := by exact Or.inl rfl) : JS X (.Assign [.Name x p'] e pos) P ρ :=
  JS.of (ps_set (i := n) hN hi hx pe_w hs hf) fun T σ D F m => he T σ _ F fun v d T' g hR r => m.nx _ _ T' g.w ((F.grow g).set (l := .frs) (by decide) r) (h d hR)
/-- isinstance(e, C) -/
theorem je_isCR {T : Str} {C : Addr} {b : Bool} {pt : Pos} (hm : X.mg "isinstance" = none) (hmT : X.mg T = some (.ref C)) (ha : JER X e ρ R) (hk : ∀ d, R d → PySem.W.kitOne X.K (tyOf d) (.ref C) = some b ∧ clsOk X.K d)
    (hg : Gl X "isinstance" := by rfl) (hgT : Gl X T := by rfl) (hdb : (T == ("__debug__" : Str)) = false := by decide)
    (h1 : starEach [e, .Name T pt] X.env = (false, eval e X.env) :: starEach [.Name T pt] X.env := by exact star_c rfl) (h2 : starEach [.Name T pt] X.env = (false, eval (.Name T pt) X.env) :: starEach [] X.env := by exact star_c rfl)
    (hpl : (backTo pos (starEach [.Name T pt] X.env)).any (·.1) = false := by exact back_ns rfl) : JE X .frs (.Call (.Name "isinstance" p) [e, .Name T pt] [] pos) ρ (.bl b) :=
  JE.of (pe_callB call_isi hg hm (by decide +kernel) (pa_cons pe_w (pa_cons (pe_glob (v := .ref C) hgT hmT rfl hdb) pa_nil h2) h1) (by decide) (by decide) h1 hpl) fun T σ Q F q => ha T σ _ F fun v d T1 g1 hR r1 =>
    ⟨v, .ref C, tyOf d, _, b, rfl, .own C, (r1.mono (g1.ok.full (a := .frs))).tyx (hk d hR).2, (hk d hR).1, q _ T1 g1 (.bl b)⟩
/-- e.f -/
theorem jer_fld {f : Str} (ha : JER X e ρ R) (hR : ∀ d, R d → ∃ C gs d', d = .obj C gs ∧ Cls X.K C ∧ NoAttr X.K C f ∧ gs.lookup f = some d' ∧ R' d') (hb : attributeBase e f X.env (eval e X.env) = eval e X.env := by rfl) : JER X (.Attribute e f pos) ρ R' := fun T σ Q F q pins s I =>
  (pe_fld pe_w hb).run pins s σ T.h Q I (ha T σ _ F fun v d T1 g1 hd r1 => by
    obtain ⟨C, gs, d', rfl, hc, hn, hl, h'⟩ := hR d hd
    cases r1 with
    | obj h rr =>
      obtain ⟨w, h1, h2⟩ := rr.look hl
      exact ⟨_, C, _, _, w, rfl, g1.ok.full (a := .frs) _ _ h, hc, hn, h1, q w d' T1 g1 h' h2⟩)
/-- len(e), known -/
theorem je_lenR {m : Nat} (hm : X.mg "len" = none) (ha : JER X e ρ R) (hR : ∀ d, R d → ∃ ns : List Int, d = .il ns ∧ ns.length = m) (hg : Gl X "len" := by rfl) (he : starEach [e] X.env = (false, eval e X.env) :: starEach [] X.env := by exact star_c rfl) (hpl : (backTo pos (starEach [] X.env)).any (·.1) = false := by exact back_ns rfl) :
    JE X .frs (.Call (.Name "len" p) [e] [] pos) ρ (.int m) := fun T σ Q F q pins s I => by
  have key : ∀ (v : V) (d : D) (T1 : W3), Grow T T1 → R d → Rp X.K T1.n v d → ∃ (ns : List Int) (a : Addr), v = .ref a ∧ T1.h a = some (.lst (ns.map V.int)) ∧ ns.length = m := fun v d T1 g1 hd r1 => by
    obtain ⟨ns, rfl, hl⟩ := hR d hd
    cases r1 with
    | il h => exact ⟨ns, _, rfl, g1.ok.full (a := .frs) _ _ h, hl⟩
  refine (pe_callB call_len_seq hg hm PySem.boot_len (pa_cons pe_w pa_nil he) (by decide) (by decide) he hpl).run pins s σ T.h Q I (ha T σ _ F fun v d T1 g1 hd r1 => ?_)
  obtain ⟨ns, a, rfl, h1, hl⟩ := key v d T1 g1 hd r1
  refine ⟨_, _, rfl, .inl (SqL.of (K := X.K) h1), ?_⟩
  rw [List.length_map, hl]
  exact q _ T1 g1 (.int _)
end
theorem fn_okUR {P : Program} {w : World} {K : PySem.W.Frag} {mg : Str → Option Value} {base : Heap} {x qual : Str} {st : Stmt} {f : Addr} {fd : FuncData} {N ps : List Str} {k : Nat} {pre : List D → Prop} {R : List D → D → Prop} (F : Fun K x qual st f fd) (S : FnScope N ps (defScope st))
    (hpre : ∀ ds, pre ds → ds.length = ps.length)
    (body : ∀ (cdv : Value) (A : Around) (outer : List Env) (s : Shared) (H : Hp) (E : XK), Room k (A.deeper (PyProof.Rows.envOfC qual (defScope st) s.heap.objs.size f cdv)) → ∀ ds, pre ds →
      JSs (cxOf CX0 P w K mg base N qual (defScope st) f cdv A outer s H E).nox (defBody st) { nx := fun _ => False, rt := fun _ => False, ru := R ds } (startE N.length ds)) :
    FnOk P w K mg base CX0 (k + 1) f fd ps (spUR K pre R) := by
  refine F.ok S (fun vs H Q E ⟨ds, r, hp, _⟩ => by rw [r.length]; exact hpre ds hp) fun cdv A outer s H vs Q E hr ⟨ds, r, hp, q⟩ => ?_
  have hlen : ds.length ≤ N.length := by
    rw [hpre ds hp]
    have := congrArg List.length S.pre
    rw [List.length_take] at this
    omega
  refine ⟨_, pss_w, body cdv A outer s H E hr ds hp ⟨H, fun _ => none, H⟩ _ _ (fr_start r hlen) ⟨fun ρ σ T' g F' z => z.elim, fun d v T' g z => z.elim, fun ρ σ T' g F' z => z.elim, fun ρ σ T' g F' z => z.elim, fun g v T' gw eg rg fr nd => ?_, fun _ _ _ _ _ _ _ z => z.elim⟩⟩
  have fb : ∀ b, b ∈ adds g → H b = none := fun b mb => by
    cases z : H b with
    | none => rfl
    | some o =>
      have z2 := gw.xi b o z
      rw [fr b mb] at z2
      cases z2
  refine q v g T'.h T'.n (gw.xi.trans gw.ok.ih) (gw.ok.ni.trans gw.ok.ih) (fun a h => ?_) eg rg (fun b mb => ⟨fb b mb, gw.ok.n_none' (fr b mb)⟩) nd
  cases z : H a with
  | none => rfl
  | some o => exact absurd (gw.fn a rfl (by show H a ≠ none; rw [z]; intro y; cases y) (by show H a ≠ none; rw [z]; intro y; cases y)) h
end Lf

set_option Elab.async false
set_option linter.all false
set_option maxRecDepth 100000
set_option maxHeartbeats 2000000
set_option autoImplicit false
namespace Lf
open PySem L2
section
variable {X : Cx} {e a b c : Expr} {es : List Expr} {ρ ρ1 : PEnv} {d d1 d2 d3 : D} {l la lb lc : Lv} {pos p p2 : Pos} {i j k : Int} {ns ms os : List Int} {ds fs : List D} {kt : Nat} {x y z : Str} {st : Stmt} {sts : List Stmt} {P : PEnds}
/-- x, y, z = [..], [..], [..] of ints, all own -/
theorem js_parO3 (n m o : Nat) {px py pz pt pt2 : Pos} {k1 k2 : Nat} (ha : JOI X a ρ ns) (hb : JOI X b ρ ms) (hcc : JOI X c ρ os) (h : P.nx (((ρ.set n (some (.ownI ns))).set m (some (.ownI ms))).set o (some (.ownI os)))) (hN : X.N.Nodup) (hnm : n ≠ m := by decide) (hno : n ≠ o := by decide) (hmo : m ≠ o := by decide)
    (hi : X.N[n]? = some x := by rfl) (hj : X.N[m]? = some y := by rfl) (hk : X.N[o]? = some z := by rfl)
    (hx : X.env.scope.names.lookup x = some .local := by rfl) (hy : X.env.scope.names.lookup y = some .local := by rfl) (hz : X.env.scope.names.lookup z = some .local := by rfl) (hc : X.calm = true := by rfl)
    (hw : swappedStores [.Tuple [.Name x px, .Name y py, .Name z pz] k1 pt] (.Tuple [a, b, c] k2 pt2) X.env = pure (some [x, y, z]) := by rfl)
    (hs : swapsWithSole [.Tuple [.Name x px, .Name y py, .Name z pz] k1 pt] (.Tuple [a, b, c] k2 pt2) pos.line X.env = pure false := by exact sws_ns rfl)
    (hs1 : starEach [a, b, c] X.env = (false, eval a X.env) :: starEach [b, c] X.env := by exact star_c rfl) (hs2 : starEach [b, c] X.env = (false, eval b X.env) :: starEach [c] X.env := by exact star_c rfl) (hs3 : starEach [c] X.env = (false, eval c X.env) :: starEach [] X.env := by exact star_c rfl) :
    JS X (.Assign [.Tuple [.Name x px, .Name y py, .Name z pz] k1 pt] (.Tuple [a, b, c] k2 pt2) pos) P ρ :=
  JS.of (ps_par3 (i := n) (j := m) (l := o) hc hN hi hj hk hnm hno hmo hx hy hz (pa_cons pe_w (pa_cons pe_w (pa_cons pe_w pa_nil hs3) hs2) hs1) hw hs) fun T σ D F mm => ha T σ _ F fun a T1 g1 h0 h1 h2 => hb T1 σ _ (F.grow g1) fun q T2 g2 h3 h4 h5 => hcc T2 σ _ ((F.grow g1).grow g2) fun r T3 g3 h6 h7 h8 => by
    refine ⟨_, _, _, rfl, mm.nx _ _ T3 ((g1.w.trans g2.w).trans g3.w) ?_ h⟩
    have F1 := (F.grow g1).setOwn (i := n) (e := .ownI ns) ⟨a, rfl, h2, h1⟩ (F.fresh h0)
    have F2 := (F1.grow g2).setOwn (i := m) (e := .ownI ms) ⟨q, rfl, h5, h4⟩ (F1.fresh h3)
    exact (F2.grow g3).setOwn (i := o) (e := .ownI os) ⟨r, rfl, h8, h7⟩ (F2.fresh h6)
/-- x, y, z = [..], v, u: an own list, two values -/
theorem js_parOVV (n m o : Nat) {px py pz pt pt2 : Pos} {k1 k2 : Nat} (ha : JOI X a ρ ns) (hb : JE X .frs b ρ d1) (hcc : JE X .frs c ρ d2) (h : P.nx (((ρ.set n (some (.ownI ns))).set m (some (.v .frs d1))).set o (some (.v .frs d2)))) (hN : X.N.Nodup) (hnm : n ≠ m := by decide) (hno : n ≠ o := by decide) (hmo : m ≠ o := by decide)
    (hi : X.N[n]? = some x := by rfl) (hj : X.N[m]? = some y := by rfl) (hk : X.N[o]? = some z := by rfl)
    (hx : X.env.scope.names.lookup x = some .local := by rfl) (hy : X.env.scope.names.lookup y = some .local := by rfl) (hz : X.env.scope.names.lookup z = some .local := by rfl) (hc : X.calm = true := by rfl)
    (hw : swappedStores [.Tuple [.Name x px, .Name y py, .Name z pz] k1 pt] (.Tuple [a, b, c] k2 pt2) X.env = pure (some [x, y, z]) := by rfl)
    (hs : swapsWithSole [.Tuple [.Name x px, .Name y py, .Name z pz] k1 pt] (.Tuple [a, b, c] k2 pt2) pos.line X.env = pure false := by exact sws_ns rfl)
    (hs1 : starEach [a, b, c] X.env = (false, eval a X.env) :: starEach [b, c] X.env := by exact star_c rfl) (hs2 : starEach [b, c] X.env = (false, eval b X.env) :: starEach [c] X.env := by exact star_c rfl) (hs3 : starEach [c] X.env = (false, eval c X.env) :: starEach [] X.env := by exact star_c rfl) :
    JS X (.Assign [.Tuple [.Name x px, .Name y py, .Name z pz] k1 pt] (.Tuple [a, b, c] k2 pt2) pos) P ρ :=
  JS.of (ps_par3 (i := n) (j := m) (l := o) hc hN hi hj hk hnm hno hmo hx hy hz (pa_cons pe_w (pa_cons pe_w (pa_cons pe_w pa_nil hs3) hs2) hs1) hw hs) fun T σ D F mm => ha T σ _ F fun a T1 g1 h0 h1 h2 => hb T1 σ _ (F.grow g1) fun v2 T2 g2 r2 => hcc T2 σ _ ((F.grow g1).grow g2) fun v3 T3 g3 r3 => by
    refine ⟨_, _, _, rfl, mm.nx _ _ T3 ((g1.w.trans g2.w).trans g3.w) ?_ h⟩
    have F1 := (F.grow g1).setOwn (i := n) (e := .ownI ns) ⟨a, rfl, h2, h1⟩ (F.fresh h0)
    have F2 := ((F1.grow g2).set (i := m) (l := .frs) (by decide) r2).grow g3
    exact F2.set (i := o) (l := .frs) (by decide) r3
theorem any_pys (f : PyData → Bool) : ∀ ds : List D, (pys ds).any f = ds.any fun d => f (py d)
  | [] => rfl
  | d :: r => by rw [pys, List.any_cons, List.any_cons, any_pys f r]
theorem any_prs (ws : List (Int × Int)) (p : Int × Int) : ((pys (ws.map fun q => D.tup [.int q.1, .int q.2])).any fun z => PyData.eqv z (py (.tup [.int p.1, .int p.2]))) = decide (p ∈ ws) := by
  rw [any_pys, List.any_map]
  have : ((fun d => (py d).eqv (py (D.tup [.int p.1, .int p.2]))) ∘ fun q : Int × Int => D.tup [.int q.1, .int q.2]) = fun q => decide (q = p) := funext fun q => eqD_pair q.1 q.2 p.1 p.2
  rw [this]
  by_cases h : p ∈ ws
  · rw [decide_eq_true h, List.any_eq_true]
    exact ⟨p, h, decide_eq_true rfl⟩
  · rw [decide_eq_false h, List.any_eq_false]
    intro q hq z
    exact h (of_decide_eq_true z ▸ hq)
theorem plains_prs (ws : List (Int × Int)) : plains (ws.map fun q => D.tup [.int q.1, .int q.2]) = true := by
  have := lay_plain _ (lay_prs ws)
  rwa [prs, plain] at this
/-- (i, j) in a list of pairs -/
theorem jc_inP {ws : List (Int × Int)} (hu : X.A.units + 65 < cLine) (ha : JE X la a ρ (.tup [.int i, .int j])) (hb : JE X lb b ρ (prs ws)) : JC X .In a b ρ (decide ((i, j) ∈ ws)) := by
  rw [← any_prs ws (i, j)]
  refine jc_inD hu ha hb rfl (plains_prs ws) (lay_shaped (d := .tup [.int i, .int j]) rfl (of_decide_eq_true rfl)) ?_
  have := lay_shaped (lay_prs ws) (dep_prs ws)
  rwa [prs, py] at this
theorem jc_notinP {ws : List (Int × Int)} (hu : X.A.units + 65 < cLine) (ha : JE X la a ρ (.tup [.int i, .int j])) (hb : JE X lb b ρ (prs ws)) : JC X .NotIn a b ρ (!decide ((i, j) ∈ ws)) := by
  rw [← any_prs ws (i, j)]
  refine jc_notinD hu ha hb rfl (plains_prs ws) (lay_shaped (d := .tup [.int i, .int j]) rfl (of_decide_eq_true rfl)) ?_
  have := lay_shaped (lay_prs ws) (dep_prs ws)
  rwa [prs, py] at this
end
end Lf

set_option Elab.async false
set_option linter.all false
set_option maxRecDepth 100000
set_option maxHeartbeats 4000000
set_option autoImplicit false
/-! ### set(xs) of a list of ints -/
namespace Lf
open PySem L2
section
variable {P : Program} {w : World} {A : Around} {E : Value → Shared → Prop} {s : Shared}
/-- a set as it is made -/
abbrev ls0 (w : World) : Obj := { cls := .type "set", dict := none, data := .set #[] 0 (.fresh 0 0 (!w.params.followText "set-order")) }
theorem ls_call {b : Addr} {us : Array Value} (ks : List Int) {Q : Value → Shared → Prop} (hh : A.handled = none) (hb : s.heap.IsList b us) (hi : PyProof.Rows.IntsAre us.toList ks) (hz : ks.length + 1 < scanBound)
    (fin : ∀ (h2 : Heap) (t2 m : Nat), SetR w h2 s.heap.objs.size (fun j => decide (j ∈ ks)) m → m ≤ ks.length → (∀ c o, s.heap.get? c = some o → h2.get? c = some o) → Q (.ref s.heap.objs.size) { s with heap := h2, toks := t2 }) :
    wpAny (model P w) A (call (.type "set") [.ref b]) Q E s := by
  have hus : us.size = ks.length := by rw [← PyProof.Rows.IntsAre.length hi, Array.length_toList]
  have mr := PySem.F.called_set.mro
  obtain ⟨_, _, mr⟩ := mr
  have md := PySem.F.called_set.made
  have sb := PySem.F.called_set.sub
  refine wpAny_call (codeAny_of_tree (show wpAny _ _ (callAny (.type "set") _) _ _ _ from ?_))
  refine wpAny_pure ⟨Code.quiet_builtin _ (by decide +kernel), codeAny_builtin PySem.F.entry_type_call ?_⟩
  rw [Around.under_plain (weight_type_call_type "set" [.ref b] []) rfl]
  have nt := PySem.F.called_set.notType
  have cc := PySem.F.called_set.canCreate
  have tc := PySem.F.typeCall_set_1 (.ref b)
  repeat (any_goals (first | assumption | wp_step))
  refine codeAny_mono (code_set_led1 (.ref b) (E := E) (Q₁ := fun x s1 => x = .ref s.heap.objs.size ∧ s1 = { s with heap := s.heap.push (ls0 w) }) ⟨rfl, rfl⟩) fun r s1 hr => ?_
  cases r with
  | error _ => exact hr
  | ok fl =>
    cases fl with
    | ret x =>
      obtain ⟨rfl, rfl⟩ := hr
      have g0 : (s.heap.push (ls0 w)).get? s.heap.objs.size = some (ls0 w) := Heap.get?_push_size _ rfl
      have ty : Shared.TypeIs { s with heap := s.heap.push (ls0 w) } (.ref s.heap.objs.size) "set" := ⟨_, g0, rfl⟩
      have lk := PySem.F.called_set.init.lookup
      have bd := PySem.F.called_set.init.bind (.ref s.heap.objs.size)
      repeat (any_goals (first | assumption | wp_step))
      refine codeAny_mono (codeAny_call_builtin (R := wants (fun r s2 => r = .none ∧ ∃ h2 t2 m, s2 = { s with heap := h2, toks := t2 } ∧ SetR w h2 s.heap.objs.size (fun j => decide (j ∈ ks)) m ∧ m ≤ ks.length ∧ (∀ c o, s.heap.get? c = some o → h2.get? c = some o)) E) PySem.F.called_set.init.plain PySem.F.entry_set_init (check_set_init_1 ty ?_)) fun r2 s2 hr2 => ?_
      · obtain ⟨⟨c1, c2, c3, c4⟩, hol, hcl, nl, hdl⟩ := hb
        simp only at hcl hdl
        subst hcl
        subst hdl
        have g1 : (s.heap.push (ls0 w)).get? b = some { cls := .type "list", dict := c2, data := .seq us nl, slots := c4 } := Heap.get?_push_of_some _ hol
        have s1' := PySem.F.sub_list_set
        have s2' := PySem.F.sub_list_frozenset
        have nd : (Value.type "list" == Value.type "dict") = false := by decide
        have lb : (s.heap.push (ls0 w)).IsList b us := ⟨_, g1, rfl, nl, rfl⟩
        unfold Builtin.«set.__init__» noKeywords Builtin.Frozenset.updateFrom
        generalize hPI : pyIter = pI
        wp_walk
        subst hPI
        refine wpAny_pyIter_list lb (wpAny_bind (wpAny_runValue ?_))
        have blt : b < s.heap.objs.size := Heap.lt_size hol
        have hh3 : A.in1.in1.in1.handled = none := by simp [hh]
        have z1 : (s.heap.push (ls0 w)).objs.size = s.heap.objs.size + 1 := Heap.size_push ..
        have nI : b ≠ (s.heap.push (ls0 w)).objs.size := by rw [z1]; exact Nat.ne_of_lt (Nat.lt_succ_of_lt blt)
        have nS : s.heap.objs.size ∉ [(s.heap.push (ls0 w)).objs.size, b] := by
          rw [z1]
          intro m
          rcases List.mem_cons.mp m with q | q
          · exact Nat.ne_of_lt (Nat.lt_succ_self _) q
          · exact Nat.ne_of_gt blt (List.mem_singleton.mp q)
        have vl : ∀ (i : Nat) (v : Value), us[i]? = some v → ∃ k t, ks[i]? = some k ∧ v = .int k t := fun i v hv => by
          have hi' : i < ks.length := by rw [← hus]; exact (Array.getElem?_eq_some_iff.mp hv).1
          obtain ⟨t, e⟩ := PyProof.Rows.IntsAre.int_at hi i v (by rw [Array.getElem?_toList]; exact hv)
          exact ⟨ks[i], t, List.getElem?_eq_getElem hi', by rw [e, List.getD_eq_getElem?_getD, List.getElem?_eq_getElem hi'] <;> rfl⟩
        refine set_update_ints ((Walks.list hh3 _ b nI us).toS) s.heap.objs.size nS ks hus hz vl (us.size - 0) 0 _ (by omega) (Nat.zero_le _) ⟨⟨_, Heap.get?_push_size _ rfl, rfl, rfl⟩, (lb.push _)⟩ ⟨0, Nat.le_refl 0, setR_new_at (Heap.get?_push_of_some _ g0)⟩ ?_
        intro s3 m3 mv hm3 R3
        obtain ⟨h3, g3, d3, t3, o3⟩ := s3
        have q1 : g3 = s.gens := mv.gens
        have q2 : d3 = s.drawn := mv.drawn
        have q3 : o3 = s.os := mv.os
        subst q1
        subst q2
        subst q3
        refine (show wpAny _ _ _ _ _ _ from wpAny_pure (show wpAny _ _ (ret Value.none) _ _ _ from ?_))
        refine wpAny_pure ⟨rfl, h3, t3, m3, rfl, R3, by rw [← hus]; exact hm3, fun c o e => ?_⟩
        have lc : c < s.heap.objs.size := Heap.lt_size e
        refine mv.heap c o (fun m => ?_) (Heap.get?_push_of_some _ (Heap.get?_push_of_some _ e))
        rcases List.mem_cons.mp m with q | q
        · exact Nat.ne_of_lt lc q
        · rw [z1] at q
          exact Nat.ne_of_lt (Nat.lt_succ_of_lt lc) (List.mem_singleton.mp q)
      · cases r2 with
        | error _ => exact hr2
        | ok fl2 =>
          cases fl2 with
          | ret r =>
            obtain ⟨rfl, h2, t2, m, rfl, R2, hm, kp⟩ := hr2
            repeat (any_goals (first | assumption | wp_step))
            exact fin _ _ _ R2 hm kp
          | _ => exact hr2.elim
    | _ => exact hr.elim
end
section
variable {X : Cx}
def rSetL (K : PySem.W.Frag) (w : World) : List V → Hp → VK → Prop := fun xs H Q => ∃ (l : Addr) (ks : List Int), xs = [.ref l] ∧ SqL K H l (ks.map V.int) ∧ ks.length ≤ 4000 ∧
  ∀ (p : Addr) (m : Nat), H p = none → m ≤ ks.length → Q (.ref p) (upd H p (SetO w p (fun j => decide (j ∈ ks)) m))
theorem cr_setL (hc : X.calm = true) : CallR X (.type "set") (rSetL X.K X.w) := by
  intro pins s σ H xs us Q I r h
  obtain ⟨l, ks, rfl, hq, hz, q⟩ := h
  obtain ⟨u, rfl, rx⟩ := r.one
  cases rx
  obtain ⟨its, rv, pl, _⟩ := I.list hq
  refine ls_call ks (I.ok.hd hc) pl.isList (by simpa using rv.ints) (by unfold scanBound; omega) fun h2 t2 m R hm kp => ?_
  exact ⟨.ref s.heap.objs.size, _, I.laid (t' := t2) kp (Nat.le_refl _) (setO_new R), rfl, q _ m (I.hok.fresh (Nat.le_refl _)) hm⟩
def rLenSet (w : World) : List V → Hp → VK → Prop := fun xs H Q => ∃ (a : Addr) (S : Int → Bool) (n : Nat), xs = [.ref a] ∧ H a = some (SetO w a S n) ∧
  ∀ ks : List Int, ks.Nodup → (∀ k, k ∈ ks ↔ S k = true) → ks.length = n → Q (.int (n : Nat)) H
theorem cr_lenSet : CallR X (.builtin "len") (rLenSet X.w) := by
  intro pins s σ H xs us Q I r h
  obtain ⟨a, S, n, rfl, ha, q⟩ := h
  obtain ⟨u, rfl, rx⟩ := r.one
  cases rx
  have R := setO_get I ha
  obtain ⟨o, es, ep, t, ho, hex, hd, g, nd, hm, hb, hf, hn, _⟩ := R
  refine call_len_set ho hex hd hf (by rw [hn]; unfold scanBound at hb; omega) ⟨.int n, H, I.tok _, ⟨_, by rw [hn]⟩, q (es.toList.map keyOf) nd (fun k => (hm k).symm) (by rw [List.length_map, Array.length_toList]; exact hn)⟩
end
/-! ### the members, sorted -/
def insU (x : Int) : List Int → List Int
  | [] => [x]
  | y :: r => if x < y then x :: y :: r else if x = y then y :: r else y :: insU x r
def sortU : List Int → List Int
  | [] => []
  | x :: r => insU x (sortU r)
theorem mem_insU {x k : Int} : ∀ {xs : List Int}, k ∈ insU x xs ↔ k = x ∨ k ∈ xs
  | [] => by simp [insU]
  | y :: r => by
    rw [insU]
    split
    · simp
    · split
      · rename_i h; subst h; simp
      · rw [List.mem_cons, mem_insU, List.mem_cons]
        constructor
        · rintro (h | h | h)
          · exact .inr (.inl h)
          · exact .inl h
          · exact .inr (.inr h)
        · rintro (h | h | h)
          · exact .inr (.inl h)
          · exact .inl h
          · exact .inr (.inr h)
theorem mem_sortU {k : Int} : ∀ {xs : List Int}, k ∈ sortU xs ↔ k ∈ xs
  | [] => Iff.rfl
  | x :: r => by rw [sortU, mem_insU, mem_sortU, List.mem_cons]
theorem pw_insU {x : Int} : ∀ {xs : List Int}, xs.Pairwise (· < ·) → (insU x xs).Pairwise (· < ·)
  | [], _ => by simp [insU]
  | y :: r, h => by
    rw [insU]
    have h' := List.pairwise_cons.mp h
    split
    · rename_i c
      refine List.pairwise_cons.mpr ⟨fun z hz => ?_, h⟩
      rcases List.mem_cons.mp hz with rfl | hz
      · exact c
      · have := h'.1 z hz; omega
    · split
      · exact h
      · refine List.pairwise_cons.mpr ⟨fun z hz => ?_, pw_insU h'.2⟩
        rcases mem_insU.mp hz with rfl | hz
        · omega
        · exact h'.1 z hz
theorem pw_sortU : ∀ xs : List Int, (sortU xs).Pairwise (· < ·)
  | [] => List.Pairwise.nil
  | _ :: r => pw_insU (pw_sortU r)
theorem nodup_of_pw {xs : List Int} (h : xs.Pairwise (· < ·)) : xs.Nodup := h.imp fun h => by omega
theorem pw_ext : ∀ {xs ys : List Int}, xs.Pairwise (· < ·) → ys.Pairwise (· < ·) → (∀ k, k ∈ xs ↔ k ∈ ys) → xs = ys
  | [], [], _, _, _ => rfl
  | [], y :: ys, _, _, h => absurd ((h y).mpr (List.mem_cons_self ..)) List.not_mem_nil
  | x :: xs, [], _, _, h => absurd ((h x).mp (List.mem_cons_self ..)) List.not_mem_nil
  | x :: xs, y :: ys, h1, h2, h => by
    have p1 := List.pairwise_cons.mp h1
    have p2 := List.pairwise_cons.mp h2
    have e : x = y := by
      rcases List.mem_cons.mp ((h x).mp (List.mem_cons_self ..)) with q | q
      · exact q
      · rcases List.mem_cons.mp ((h y).mpr (List.mem_cons_self ..)) with q2 | q2
        · exact q2.symm
        · have := p2.1 x q; have := p1.1 y q2; omega
    subst e
    rw [pw_ext p1.2 p2.2 fun k => ?_]
    have hk := h k
    rw [List.mem_cons, List.mem_cons] at hk
    constructor
    · intro m
      rcases hk.mp (.inr m) with rfl | q
      · have := p1.1 k m; omega
      · exact q
    · intro m
      rcases hk.mpr (.inr m) with rfl | q
      · have := p2.1 k m; omega
      · exact q
theorem len_sortU {xs ks : List Int} (hn : ks.Nodup) (h : ∀ k, k ∈ ks ↔ k ∈ xs) : ks.length = (sortU xs).length :=
  ((List.perm_ext_iff_of_nodup hn (nodup_of_pw (pw_sortU xs))).mpr fun k => by rw [h, mem_sortU]).length_eq
section
variable {X : Cx} {e a b c : Expr} {es : List Expr} {ρ ρ1 : PEnv} {d d1 d2 d3 : D} {l la lb lc : Lv} {pos p p2 pos2 : Pos} {i j k : Int} {ns ms os : List Int} {ds fs : List D}
/-- len(set(xs)) -/
theorem je_lenSet (hm : X.mg "len" = none) (hm2 : X.mg "set" = none) (ha : JE X la a ρ (.il ns)) (hz : ns.length ≤ 4000) (hc : X.calm = true := by rfl) (hg : Gl X "len" := by rfl) (hg2 : Gl X "set" := by rfl)
    (he : starEach [.Call (.Name "set" p2) [a] [] pos2] X.env = (false, eval (.Call (.Name "set" p2) [a] [] pos2) X.env) :: starEach [] X.env := by exact star_c rfl) (he2 : starEach [a] X.env = (false, eval a X.env) :: starEach [] X.env := by exact star_c rfl)
    (hpl : (backTo pos (starEach [] X.env)).any (·.1) = false := by exact back_ns rfl) (hpl2 : (backTo pos2 (starEach [] X.env)).any (·.1) = false := by exact back_ns rfl) :
    JE X .frs (.Call (.Name "len" p) [.Call (.Name "set" p2) [a] [] pos2] [] pos) ρ (.int (sortU ns).length) :=
  JE.of (pe_callB cr_lenSet hg hm PySem.boot_len (pa_cons (pe_callTy (cr_setL hc) hg2 hm2 PyProof.Rows.boot_set (pa_cons pe_w pa_nil he2) (by decide) (by decide) he2 hpl2) pa_nil he) (by decide) (by decide) he hpl) fun T σ Q F q => ha T σ _ F fun v T1 g1 r1 => by
    have r1' := r1.mono g1.ok.full
    cases r1' with
    | il h1 =>
      refine ⟨_, ns, rfl, SqL.of h1, hz, fun p0 m hp hm' => ?_⟩
      refine ⟨_, _, _, rfl, upd_same, fun ks hnd hk hl => ?_⟩
      rw [← hl, len_sortU (xs := ns) hnd (fun k => by rw [hk, decide_eq_true_eq])]
      exact q _ (T1.put p0 _) (g1.trans (Grow.put g1.ok hp)) (.int _)
/-- sorted(set(xs)) -/
theorem joi_sortedSet (hm : X.mg "sorted" = none) (hm2 : X.mg "set" = none) (ha : JE X la a ρ (.il ns)) (hz : ns.length < 64) (hc : X.calm = true := by rfl) (hg : Gl X "sorted" := by rfl) (hg2 : Gl X "set" := by rfl)
    (he : starEach [.Call (.Name "set" p2) [a] [] pos2] X.env = (false, eval (.Call (.Name "set" p2) [a] [] pos2) X.env) :: starEach [] X.env := by exact star_c rfl) (he2 : starEach [a] X.env = (false, eval a X.env) :: starEach [] X.env := by exact star_c rfl)
    (hpl : (backTo pos (starEach [] X.env)).any (·.1) = false := by exact back_ns rfl) (hpl2 : (backTo pos2 (starEach [] X.env)).any (·.1) = false := by exact back_ns rfl) :
    JOI X (.Call (.Name "sorted" p) [.Call (.Name "set" p2) [a] [] pos2] [] pos) ρ (sortU ns) :=
  JOI.of (pe_callB (cr_sortedSet hc) hg hm (by decide +kernel) (pa_cons (pe_callTy (cr_setL hc) hg2 hm2 PyProof.Rows.boot_set (pa_cons pe_w pa_nil he2) (by decide) (by decide) he2 hpl2) pa_nil he) (by decide) (by decide) he hpl) fun T σ Q F q => ha T σ _ F fun v T1 g1 r1 => by
    have r1' := r1.mono g1.ok.full
    cases r1' with
    | il h1 =>
      refine ⟨_, ns, rfl, SqL.of h1, by omega, fun p0 m hp hm' => ?_⟩
      refine ⟨_, _, _, rfl, upd_same, by omega, fun ks p1 hpw hk hl hp1 => ?_⟩
      have e : ks = sortU ns := pw_ext hpw (pw_sortU ns) fun k => by rw [hk, mem_sortU, decide_eq_true_eq]
      subst e
      have G := g1.trans (Grow.put (x := SetO X.w p0 (fun j => decide (j ∈ ns)) m) g1.ok hp)
      have hp1' : (T1.put p0 (SetO X.w p0 (fun j => decide (j ∈ ns)) m)).h p1 = none := hp1
      exact q p1 ((T1.put p0 _).put p1 _) (G.trans (Grow.put G.ok hp1')) (Same.free G.ex hp1') (G.ok.i_none hp1') upd_same
end
end Lf

set_option Elab.async false
set_option linter.all false
set_option maxRecDepth 100000
set_option maxHeartbeats 2000000
set_option autoImplicit false
/-! M1: places at which rows stand, in plain Lean. -/
namespace M1
open Lf (gI cutL)
/-- the earliest places from p on -/
def eF (p : Int) : List Int → List Int → List Int
  | [], _ => []
  | _ :: _, [] => []
  | r :: rs, o :: os => if o = r then p :: eF (p + 1) rs os else eF (p + 1) rs (o :: os)
def risF (last many : Int) : List Int → Bool
  | [] => true
  | p :: r => decide (last < p ∧ p < many) && risF p many r
def stdF (row ps os : List Int) : Bool := risF (-1) row.length ps && (decide (ps.length = os.length) && decide (ps.map (gI row) = os))
def lsF (row : List Int) (last : Int) : List Int → List Int → Bool
  | p :: ps, o :: os => decide (last < p ∧ p < row.length) && decide (gI row p = o) && lsF row p ps os
  | _, _ => true
theorem lsF_eq (row : List Int) : ∀ (last : Int) (ps os : List Int), ps.length = os.length → lsF row last ps os = (risF last row.length ps && decide (ps.map (gI row) = os))
  | _, [], [], _ => by simp [lsF, risF]
  | last, p :: ps, o :: os, h => by
    rw [lsF, risF, lsF_eq row p ps os (Nat.succ.inj h), List.map_cons]
    by_cases h1 : last < p ∧ p < row.length
    · by_cases h2 : gI row p = o
      · simp [h1, h2]
      · simp [h1, h2]
    · simp [h1]
  | _, [], _ :: _, h => by cases h
  | _, _ :: _, [], h => by cases h
/-- the gaps of the first signs: om the sign that stands nowhere behind -/
def gapF (row : List Int) (om : Int) (begin : Int) : List Int → Bool
  | [] => !decide (om ∈ cutL row (some begin) none)
  | p :: r => !decide (gI row p ∈ cutL row (some begin) (some p)) && gapF row om (p + 1) r
def shF (row ps os : List Int) : Bool := decide (ps.length < os.length) && (stdF row ps (os.take ps.length) && gapF row (gI os ps.length) 0 ps)
/-- the signs that are left when a row told backwards is looked through -/
def lF : List Int → List Int → List Int
  | [], os => os
  | _ :: _, [] => []
  | r :: rs, o :: os => if o = r then lF rs os else lF rs (o :: os)
def isLeft (row os : List Int) : Bool := decide (lF row.reverse os.reverse = [])
theorem lF_nil : ∀ rs : List Int, lF rs [] = []
  | [] => rfl
  | _ :: _ => rfl
theorem eF_nil (p : Int) : ∀ rs : List Int, eF p rs [] = []
  | [] => rfl
  | _ :: _ => rfl
theorem lF_sub : ∀ (rs os : List Int), lF rs os = [] ↔ List.Sublist os rs
  | [], os => by
    show os = [] ↔ _
    constructor
    · intro h; subst h; exact List.Sublist.refl _
    · intro h; exact List.eq_nil_of_length_eq_zero (Nat.le_zero.mp h.length_le)
  | r :: rs, [] => by
    rw [lF_nil]
    exact ⟨fun _ => List.nil_sublist _, fun _ => rfl⟩
  | r :: rs, o :: os => by
    show (if o = r then lF rs os else lF rs (o :: os)) = [] ↔ _
    by_cases h : o = r
    · subst h
      rw [if_pos rfl, lF_sub rs os, List.cons_sublist_cons]
    · rw [if_neg h, lF_sub rs (o :: os)]
      exact ⟨fun z => z.cons _, fun z => by
        cases z with
        | cons _ z => exact z
        | cons_cons _ z => exact absurd rfl h⟩
theorem eF_sub : ∀ (p : Int) (rs os : List Int), (eF p rs os).length = os.length ↔ List.Sublist os rs
  | p, [], os => by
    show 0 = os.length ↔ _
    constructor
    · intro h
      rw [List.eq_nil_of_length_eq_zero h.symm]
      exact List.Sublist.refl _
    · intro h
      have := h.length_le
      rw [List.length_nil] at this
      omega
  | p, r :: rs, [] => by
    rw [eF_nil]
    exact ⟨fun _ => List.nil_sublist _, fun _ => rfl⟩
  | p, r :: rs, o :: os => by
    show (if o = r then p :: eF (p + 1) rs os else eF (p + 1) rs (o :: os)).length = _ ↔ _
    by_cases h : o = r
    · subst h
      rw [if_pos rfl, List.cons_sublist_cons, ← eF_sub (p + 1) rs os, List.length_cons, List.length_cons]
      omega
    · rw [if_neg h, eF_sub (p + 1) rs (o :: os)]
      exact ⟨fun z => z.cons _, fun z => by
        cases z with
        | cons _ z => exact z
        | cons_cons _ z => exact absurd rfl h⟩
theorem isLeft_sub (row os : List Int) : isLeft row os = decide (os.Sublist row) := by
  unfold isLeft
  apply decide_eq_decide.mpr
  rw [lF_sub]
  exact List.reverse_sublist
theorem isLeft_eF (row os : List Int) : isLeft row os = decide ((eF 0 row os).length = os.length) := by
  rw [isLeft_sub]
  exact decide_eq_decide.mpr (eF_sub 0 row os).symm
theorem gI_nat (xs : List Int) (n : Nat) : gI xs (n : Int) = xs.getD n 0 := by
  unfold gI
  rw [if_pos (by omega), Int.toNat_natCast]
theorem eF_len : ∀ (p : Int) (rs os : List Int), (eF p rs os).length ≤ os.length
  | p, [], os => Nat.zero_le _
  | p, r :: rs, [] => by rw [eF_nil]; exact Nat.le_refl _
  | p, r :: rs, o :: os => by
    show (if o = r then p :: eF (p + 1) rs os else eF (p + 1) rs (o :: os)).length ≤ _
    have h1 := eF_len (p + 1) rs os
    have h2 := eF_len (p + 1) rs (o :: os)
    split
    · rw [List.length_cons, List.length_cons]; omega
    · exact h2
theorem eF_len2 : ∀ (p : Int) (rs os : List Int), (eF p rs os).length ≤ rs.length
  | p, [], os => Nat.zero_le _
  | p, r :: rs, [] => by rw [eF_nil]; exact Nat.zero_le _
  | p, r :: rs, o :: os => by
    show (if o = r then p :: eF (p + 1) rs os else eF (p + 1) rs (o :: os)).length ≤ _
    have h1 := eF_len2 (p + 1) rs os
    have h2 := eF_len2 (p + 1) rs (o :: os)
    split
    · rw [List.length_cons, List.length_cons]; omega
    · rw [List.length_cons]; omega
theorem risF_weak (many : Int) : ∀ (ps : List Int) (l l' : Int), l' ≤ l → risF l many ps = true → risF l' many ps = true
  | [], _, _, _, _ => rfl
  | p :: r, l, l', h, e => by
    rw [risF, Bool.and_eq_true, decide_eq_true_eq] at e ⊢
    exact ⟨⟨by omega, e.1.2⟩, e.2⟩
/-- what the earliest places are: rs is the row behind pre, no sign of the gap that begins at b is the next one -/
theorem eF_all : ∀ (rs pre os : List Int) (b : Nat), b ≤ pre.length → (∀ o, os.head? = some o → o ∉ pre.drop b) →
    risF ((b : Int) - 1) (pre ++ rs).length (eF pre.length rs os) = true ∧ (eF pre.length rs os).map (gI (pre ++ rs)) = os.take (eF pre.length rs os).length ∧
    ((eF pre.length rs os).length < os.length → gapF (pre ++ rs) (os.getD (eF pre.length rs os).length 0) b (eF pre.length rs os) = true)
  | [], pre, os, b, hb, hn => by
    refine ⟨rfl, rfl, fun h => ?_⟩
    cases os with
    | nil => cases h
    | cons o os =>
      show (!decide (o ∈ cutL (pre ++ []) (some (b : Int)) none)) = true
      rw [Lf.cutL_from _ (by omega), Int.toNat_natCast, List.append_nil, decide_eq_false (hn o rfl)]
      rfl
  | r :: rs, pre, [], b, hb, hn => by
    rw [eF_nil]
    exact ⟨rfl, rfl, fun h => absurd h (by simp)⟩
  | r :: rs, pre, o :: os, b, hb, hn => by
    have e1 : pre ++ r :: rs = (pre ++ [r]) ++ rs := by simp
    have el : ((pre.length : Nat) : Int) + 1 = (((pre ++ [r]).length : Nat) : Int) := by rw [List.length_append, List.length_singleton]; omega
    have hlt : pre.length < (pre ++ r :: rs).length := by rw [List.length_append, List.length_cons]; omega
    have hg : gI (pre ++ r :: rs) (pre.length : Nat) = r := by
      rw [gI_nat, List.getD_eq_getElem?_getD, List.getElem?_append_right (Nat.le_refl _), Nat.sub_self]
      rfl
    by_cases h : o = r
    · subst h
      have ih := eF_all rs (pre ++ [o]) os (pre ++ [o]).length (Nat.le_refl _) (fun o' _ => by rw [List.drop_length]; exact List.not_mem_nil)
      rw [← e1] at ih
      have ee : eF (pre.length : Nat) (o :: rs) (o :: os) = (pre.length : Int) :: eF (pre ++ [o]).length rs os := by
        show (if o = o then (pre.length : Int) :: eF ((pre.length : Int) + 1) rs os else _) = _
        rw [if_pos rfl, el]
      rw [ee]
      obtain ⟨i1, i2, i3⟩ := ih
      refine ⟨?_, ?_, fun hl => ?_⟩
      · rw [risF, Bool.and_eq_true, decide_eq_true_eq]
        refine ⟨⟨by omega, by omega⟩, ?_⟩
        have q : (((pre ++ [o]).length : Nat) : Int) - 1 = (pre.length : Int) := by omega
        rw [q] at i1
        exact i1
      · rw [List.map_cons, List.length_cons, List.take_succ_cons, i2, hg]
      · rw [List.length_cons] at hl ⊢
        rw [List.length_cons] at hl
        rw [gapF, List.getD_cons_succ, hg, el, i3 (by omega), Bool.and_true]
        have : cutL (pre ++ o :: rs) (some (b : Int)) (some ((pre.length : Nat) : Int)) = pre.drop b := by
          rw [Lf.cutL_mid _ (by omega) (by omega), Int.toNat_natCast, Int.toNat_natCast, List.drop_append_of_le_length hb]
          rw [List.take_append_of_le_length (by rw [List.length_drop]; omega), List.take_of_length_le (by rw [List.length_drop]; omega)]
        rw [this, decide_eq_false (hn o rfl)]
        rfl
    · have ih := eF_all rs (pre ++ [r]) (o :: os) b (by rw [List.length_append]; omega) (fun o' ho' => by
        cases ho'
        rw [List.drop_append_of_le_length hb, List.mem_append]
        rintro (z | z)
        · exact hn o rfl z
        · exact h (List.mem_singleton.mp z))
      rw [← e1] at ih
      have ee : eF (pre.length : Nat) (r :: rs) (o :: os) = eF (pre ++ [r]).length rs (o :: os) := by
        show (if o = r then (pre.length : Int) :: eF ((pre.length : Int) + 1) rs os else eF ((pre.length : Int) + 1) rs (o :: os)) = _
        rw [if_neg h, el]
      rw [ee]
      exact ih
theorem eF_std (row os : List Int) : stdF row (eF 0 row os) (os.take (eF 0 row os).length) = true := by
  obtain ⟨h1, h2, _⟩ := eF_all row [] os 0 (Nat.le_refl _) (fun o _ => List.not_mem_nil)
  unfold stdF
  have h1' : risF (-1) (row.length : Nat) (eF 0 row os) = true := h1
  have h2' : (eF 0 row os).map (gI row) = os.take (eF 0 row os).length := h2
  have h3 : (eF 0 row os).length = (os.take (eF 0 row os).length).length := by
    rw [List.length_take, Nat.min_eq_left (eF_len 0 row os)]
  rw [h1', decide_eq_true h3, decide_eq_true h2']
  rfl
theorem eF_left {row os : List Int} (h : (eF 0 row os).length = os.length) : stdF row (eF 0 row os) os = true := by
  have := eF_std row os
  rw [h, List.take_length] at this
  exact this
theorem eF_short {row os : List Int} (h : ¬ (eF 0 row os).length = os.length) : shF row (eF 0 row os) os = true := by
  have hl := eF_len 0 row os
  unfold shF
  rw [decide_eq_true (show (eF 0 row os).length < os.length by omega), eF_std]
  obtain ⟨_, _, h3⟩ := eF_all row [] os 0 (Nat.le_refl _) (fun o _ => List.not_mem_nil)
  rw [gI_nat]
  have := h3 (by show (eF 0 row os).length < os.length; omega)
  rw [show gapF row (os.getD (eF 0 row os).length 0) 0 (eF 0 row os) = true from this]
  rfl
/-- rising places, one more behind the row -/
theorem risF_more (many : Int) : ∀ (ps : List Int) (l : Int), risF l many (ps ++ [many]) = false
  | [], l => by
    show (decide (l < many ∧ many < many) && _) = false
    rw [decide_eq_false (by omega)]
    rfl
  | p :: r, l => by
    rw [List.cons_append, risF, risF_more many r p, Bool.and_false]
theorem std_more (row ps os : List Int) : stdF row (ps ++ [(row.length : Int)]) os = false := by
  unfold stdF
  rw [risF_more, Bool.false_and]
theorem sh_more (row ps os : List Int) : shF row (ps ++ [(row.length : Int)]) os = false := by
  unfold shF
  rw [std_more, Bool.false_and, Bool.and_false]
theorem risF_len (many : Int) : ∀ (ps : List Int) (l : Int), -1 ≤ l → l < many → risF l many ps = true → (ps.length : Int) ≤ many - 1 - l
  | [], l, _, _, _ => by simp; omega
  | p :: r, l, h0, h1, e => by
    rw [risF, Bool.and_eq_true, decide_eq_true_eq] at e
    have := risF_len many r p (by omega) e.1.2 e.2
    rw [List.length_cons]
    omega
theorem risF_mem (many : Int) : ∀ (ps : List Int) (l : Int), -1 ≤ l → risF l many ps = true → ∀ p, p ∈ ps → 0 ≤ p ∧ p < many
  | [], _, _, _, p, m => by cases m
  | q :: r, l, h0, e, p, m => by
    rw [risF, Bool.and_eq_true, decide_eq_true_eq] at e
    rcases List.mem_cons.mp m with rfl | m
    · exact ⟨by omega, e.1.2⟩
    · exact risF_mem many r q (by omega) e.2 p m
/-- the law's own look at gaps: the sign of each place by the other row -/
def gap2 (row os : List Int) (at_ : Int) (begin : Int) : List Int → Bool
  | [] => !decide (gI os at_ ∈ cutL row (some begin) (some row.length))
  | p :: r => !decide (gI os at_ ∈ cutL row (some begin) (some p)) && gap2 row os (at_ + 1) (p + 1) r
theorem cut_end (row : List Int) {b : Int} (h : 0 ≤ b) : cutL row (some b) (some row.length) = cutL row (some b) none := by
  rw [Lf.cutL_mid _ h (by omega), Lf.cutL_from _ h, Int.toNat_natCast]
  rw [List.take_of_length_le (by rw [List.length_drop]; omega)]
theorem gap2_eq (row os : List Int) : ∀ (ps : List Int) (i : Nat) (b : Int), 0 ≤ b → (∀ p, p ∈ ps → 0 ≤ p) → ps.map (gI row) = (os.drop i).take ps.length → i + ps.length < os.length →
    gap2 row os i b ps = gapF row (gI os (i + ps.length : Nat)) b ps
  | [], i, b, hb, _, _, _ => by
    rw [gap2, gapF, cut_end row hb]
    rfl
  | p :: r, i, b, hb, hp, e, hl => by
    rw [List.length_cons] at hl e
    have hi : i < os.length := by omega
    have ed : os.drop i = os[i] :: os.drop (i + 1) := List.drop_eq_getElem_cons hi
    rw [ed, List.map_cons, List.take_succ_cons] at e
    obtain ⟨e1, e2⟩ := List.cons.inj e
    have hg : gI os (i : Int) = gI row p := by
      rw [gI_nat, List.getD_eq_getElem?_getD, List.getElem?_eq_getElem hi, e1]
      rfl
    have ih := gap2_eq row os r (i + 1) (p + 1) (by have := hp p (List.mem_cons_self ..); omega) (fun q m => hp q (List.mem_cons_of_mem _ m)) e2 (by omega)
    rw [gap2, gapF, hg, List.length_cons]
    have e3 : (i : Int) + 1 = ((i + 1 : Nat) : Int) := by omega
    have e4 : i + (r.length + 1) = i + 1 + r.length := by omega
    rw [e3, ih, e4]
end M1

set_option Elab.async false
set_option linter.all false
set_option maxRecDepth 100000
set_option maxHeartbeats 2000000
set_option autoImplicit false
/-! M2: bounds of what two rows have in common, in plain Lean. -/
namespace M2
open Lf (gI cutL) 
open M1
noncomputable def dec (p : Prop) : Bool := @decide p (Classical.propDecidable p)
theorem dec_t {p : Prop} (h : p) : dec p = true := @decide_eq_true p (Classical.propDecidable p) h
theorem dec_f {p : Prop} (h : ¬ p) : dec p = false := @decide_eq_false p (Classical.propDecidable p) h
theorem dec_iff {p q : Prop} (h : p ↔ q) : dec p = dec q := by rw [propext h]
theorem dec_dec {p : Prop} [i : Decidable p] : dec p = decide p := by
  by_cases h : p
  · rw [dec_t h, decide_eq_true h]
  · rw [dec_f h, decide_eq_false h]
theorem of_dec {p : Prop} (h : dec p = true) : p := by
  by_cases q : p
  · exact q
  · rw [dec_f q] at h; cases h
theorem of_decf {p : Prop} (h : dec p = false) : ¬ p := fun q => by rw [dec_t q] at h; cases h
def mx (a b : Int) : Int := if b > a then b else a
theorem mx_le (a b : Int) : a ≤ mx a b ∧ b ≤ mx a b ∧ (mx a b = a ∨ mx a b = b) := by
  unfold mx
  split <;> omega
def tbS (sign : Int) (other : List Int) (ahead : Nat → Int) : Nat → Int
  | 0 => 0
  | j + 1 => if sign = other.getD j 0 then ahead j + 1 else mx (tbS sign other ahead j) (ahead (j + 1))
def tb (one other : List Int) : Nat → Nat → Int
  | 0 => fun _ => 0
  | i + 1 => tbS (one.getD i 0) other (tb one other i)
theorem tb_0 (one other : List Int) : ∀ i, tb one other i 0 = 0
  | 0 => rfl
  | _ + 1 => rfl
theorem tb_s (one other : List Int) (i j : Nat) : tb one other (i + 1) (j + 1) = if one.getD i 0 = other.getD j 0 then tb one other i j + 1 else mx (tb one other (i + 1) j) (tb one other i (j + 1)) := rfl
theorem tb_step (one other : List Int) : ∀ i, (∀ j, tb one other i j ≤ tb one other i (j + 1) ∧ tb one other i (j + 1) ≤ tb one other i j + 1) ∧ (∀ j, tb one other i j ≤ tb one other (i + 1) j ∧ tb one other (i + 1) j ≤ tb one other i j + 1) := by
  have key : ∀ i, (∀ j, tb one other i j ≤ tb one other i (j + 1) ∧ tb one other i (j + 1) ≤ tb one other i j + 1) → (∀ j, tb one other i j ≤ tb one other (i + 1) j ∧ tb one other (i + 1) j ≤ tb one other i j + 1) := by
    intro i A j
    induction j with
    | zero => rw [tb_0, tb_0]; omega
    | succ j ih =>
      have a := A j
      rw [tb_s]
      split
      · omega
      · have := mx_le (tb one other (i + 1) j) (tb one other i (j + 1))
        omega
  intro i
  induction i with
  | zero =>
    have A : ∀ j, tb one other 0 j ≤ tb one other 0 (j + 1) ∧ tb one other 0 (j + 1) ≤ tb one other 0 j + 1 := fun j => by
      show (0 : Int) ≤ 0 ∧ (0 : Int) ≤ 0 + 1
      omega
    exact ⟨A, key 0 A⟩
  | succ i ih =>
    obtain ⟨A, B⟩ := ih
    have A' : ∀ j, tb one other (i + 1) j ≤ tb one other (i + 1) (j + 1) ∧ tb one other (i + 1) (j + 1) ≤ tb one other (i + 1) j + 1 := fun j => by
      have a := A j
      have b := B j
      rw [tb_s]
      split
      · omega
      · have := mx_le (tb one other (i + 1) j) (tb one other i (j + 1))
        omega
    exact ⟨A', key (i + 1) A'⟩
theorem tb_nonneg (one other : List Int) (i : Nat) : ∀ j, 0 ≤ tb one other i j := by
  intro j
  induction j with
  | zero => rw [tb_0]; omega
  | succ j ih => have := (tb_step one other i).1 j; omega
theorem tb_mono (one other : List Int) (i : Nat) : ∀ j k, tb one other i j ≤ tb one other i (j + k)
  | j, 0 => Int.le_refl _
  | j, k + 1 => by have := tb_mono one other i j k; have := (tb_step one other i).1 (j + k); rw [← Nat.add_assoc]; omega
theorem tb_pos {one other : List Int} {i j : Nat} (h : 0 < tb one other i j) : 0 < i ∧ 0 < j := by
  cases i with
  | zero => exact absurd h (by show ¬ (0 : Int) < 0; omega)
  | succ i =>
    cases j with
    | zero => rw [tb_0] at h; omega
    | succ j => omega
def rowF (f : Nat → Int) (m : Nat) : List Int := (List.range (m + 1)).map f
theorem rowF_len (f : Nat → Int) (m : Nat) : (rowF f m).length = m + 1 := by unfold rowF; simp
theorem rowF_at {f : Nat → Int} {m j : Nat} (h : j ≤ m) : (rowF f m).getD j 0 = f j := by
  unfold rowF
  rw [List.getD_eq_getElem?_getD, List.getElem?_map, List.getElem?_range (by omega)]
  rfl
def tabF (one other : List Int) : List (List Int) := (List.range (one.length + 1)).map fun i => rowF (tb one other i) other.length
theorem tabF_len (one other : List Int) : (tabF one other).length = one.length + 1 := by unfold tabF; simp
def g (tab : List (List Int)) (i j : Nat) : Int := (tab.getD i []).getD j 0
theorem tabF_row {one other : List Int} {i : Nat} (h : i ≤ one.length) : (tabF one other).getD i [] = rowF (tb one other i) other.length := by
  unfold tabF
  rw [List.getD_eq_getElem?_getD, List.getElem?_map, List.getElem?_range (by omega)]
  rfl
theorem g_tabF {one other : List Int} {i j : Nat} (h : i ≤ one.length) (hj : j ≤ other.length) : g (tabF one other) i j = tb one other i j := by
  unfold g
  rw [tabF_row h, rowF_at hj]
/-- what is asked of a cell -/
structure CellOk (one other : List Int) (tab : List (List Int)) (i j : Nat) : Prop where
  z : 0 ≤ g tab i j
  u : 0 < i → g tab (i - 1) j ≤ g tab i j
  l : 0 < j → g tab i (j - 1) ≤ g tab i j
  d : 0 < i → 0 < j → one.getD (i - 1) 0 = other.getD (j - 1) 0 → g tab (i - 1) (j - 1) < g tab i j
structure TabOk (one other : List Int) (tab : List (List Int)) : Prop where
  n : tab.length = one.length + 1
  m : ∀ i, i ≤ one.length → (tab.getD i []).length = other.length + 1
  c : ∀ i j, i ≤ one.length → j ≤ other.length → CellOk one other tab i j
theorem tabOk_tabF (one other : List Int) : TabOk one other (tabF one other) := by
  refine ⟨tabF_len one other, fun i hi => by rw [tabF_row hi, rowF_len], fun i j hi hj => ?_⟩
  have g0 := g_tabF (one := one) (other := other) hi hj
  refine ⟨by rw [g0]; exact tb_nonneg one other i j, fun h => ?_, fun h => ?_, fun h1 h2 e => ?_⟩
  · rw [g0, g_tabF (by omega) hj]
    have := ((tb_step one other (i - 1)).2 j).1
    rw [show i - 1 + 1 = i by omega] at this
    exact this
  · rw [g0, g_tabF hi (by omega)]
    have := ((tb_step one other i).1 (j - 1)).1
    rw [show j - 1 + 1 = j by omega] at this
    exact this
  · rw [g0, g_tabF (by omega) (by omega)]
    have := tb_s one other (i - 1) (j - 1)
    rw [if_pos e, show i - 1 + 1 = i by omega, show j - 1 + 1 = j by omega] at this
    omega
/-- the places found from behind -/
def cpF (one other : List Int) : Nat → Nat → Nat → List Int × List Int
  | 0, _, _ => ([], [])
  | f + 1, i, j => if 0 < tb one other i j then
      (if one.getD (i - 1) 0 = other.getD (j - 1) 0 then ((cpF one other f (i - 1) (j - 1)).1 ++ [((i - 1 : Nat) : Int)], (cpF one other f (i - 1) (j - 1)).2 ++ [((j - 1 : Nat) : Int)])
      else if tb one other i (j - 1) ≤ tb one other (i - 1) j then cpF one other f (i - 1) j else cpF one other f i (j - 1))
    else ([], [])
theorem risF_snoc {M m : Int} (h2 : m < M) : ∀ (xs : List Int) (l : Int), l < m → risF l m xs = true → risF l M (xs ++ [m]) = true
  | [], l, h, _ => by
    rw [List.nil_append, risF, risF, Bool.and_true]
    exact decide_eq_true ⟨h, h2⟩
  | p :: r, l, h, e => by
    rw [risF, Bool.and_eq_true, decide_eq_true_eq] at e
    rw [List.cons_append, risF, Bool.and_eq_true, decide_eq_true_eq]
    exact ⟨⟨e.1.1, by omega⟩, risF_snoc h2 r p e.1.2 e.2⟩
theorem risF_up {M m : Int} (h : m ≤ M) : ∀ (xs : List Int) (l : Int), risF l m xs = true → risF l M xs = true
  | [], _, _ => rfl
  | p :: r, l, e => by
    rw [risF, Bool.and_eq_true, decide_eq_true_eq] at e ⊢
    exact ⟨⟨e.1.1, by omega⟩, risF_up h r p e.2⟩
theorem cp_ok (one other : List Int) : ∀ (f i j : Nat), i + j ≤ f → i ≤ one.length → j ≤ other.length →
    ((cpF one other f i j).1.length : Int) = tb one other i j ∧ ((cpF one other f i j).2.length : Int) = tb one other i j ∧
    (cpF one other f i j).1.map (gI one) = (cpF one other f i j).2.map (gI other) ∧ risF (-1) i (cpF one other f i j).1 = true ∧ risF (-1) j (cpF one other f i j).2 = true
  | 0, i, j, h, _, _ => by
    have : i = 0 := by omega
    subst this
    exact ⟨rfl, rfl, rfl, rfl, rfl⟩
  | f + 1, i, j, h, hi, hj => by
    rw [cpF]
    by_cases hp : 0 < tb one other i j
    · obtain ⟨i0, j0⟩ := tb_pos hp
      rw [if_pos hp]
      have e := tb_s one other (i - 1) (j - 1)
      rw [show i - 1 + 1 = i by omega, show j - 1 + 1 = j by omega] at e
      by_cases he : one.getD (i - 1) 0 = other.getD (j - 1) 0
      · rw [if_pos he]
        rw [if_pos he] at e
        obtain ⟨h1, h2, h3, h4, h5⟩ := cp_ok one other f (i - 1) (j - 1) (by omega) (by omega) (by omega)
        refine ⟨by rw [List.length_append, List.length_singleton]; omega, by rw [List.length_append, List.length_singleton]; omega, ?_, risF_snoc (by omega) _ _ (by omega) h4, risF_snoc (by omega) _ _ (by omega) h5⟩
        rw [List.map_append, List.map_append, h3]
        congr 1
        rw [List.map_singleton, List.map_singleton, gI_nat, gI_nat, he]
      · rw [if_neg he]
        rw [if_neg he] at e
        have hm := mx_le (tb one other i (j - 1)) (tb one other (i - 1) j)
        have hmx : mx (tb one other i (j - 1)) (tb one other (i - 1) j) = if tb one other (i - 1) j > tb one other i (j - 1) then tb one other (i - 1) j else tb one other i (j - 1) := rfl
        by_cases hc : tb one other i (j - 1) ≤ tb one other (i - 1) j
        · rw [if_pos hc]
          obtain ⟨h1, h2, h3, h4, h5⟩ := cp_ok one other f (i - 1) j (by omega) (by omega) (by omega)
          have : tb one other i j = tb one other (i - 1) j := by omega
          exact ⟨by omega, by omega, h3, risF_up (by omega) _ _ h4, h5⟩
        · rw [if_neg hc]
          obtain ⟨h1, h2, h3, h4, h5⟩ := cp_ok one other f i (j - 1) (by omega) (by omega) (by omega)
          have : tb one other i j = tb one other i (j - 1) := by omega
          exact ⟨by omega, by omega, h3, h4, risF_up (by omega) _ _ h5⟩
    · rw [if_neg hp]
      have := tb_nonneg one other i j
      exact ⟨by show (0 : Int) = _; omega, by show (0 : Int) = _; omega, rfl, rfl, rfl⟩
theorem tb_self (one : List Int) : ∀ i, tb one one i i = i
  | 0 => rfl
  | i + 1 => by rw [tb_s, if_pos rfl, tb_self one i]; omega
theorem cp_self (one : List Int) : ∀ (f i : Nat), i + i ≤ f → (cpF one one f i i).1 = (List.range i).map fun k : Nat => (0 : Int) + (k : Int)
  | 0, i, h => by
    have : i = 0 := by omega
    subst this
    rfl
  | f + 1, 0, h => by
    rw [cpF, if_neg (by rw [tb_0]; omega)]
    rfl
  | f + 1, i + 1, h => by
    rw [cpF, if_pos (by rw [tb_self]; omega), if_pos rfl]
    show (cpF one one f i i).1 ++ [((i : Nat) : Int)] = _
    rw [cp_self one f i (by omega), List.range_succ, List.map_append]
    congr 1
    show [(i : Int)] = [0 + (i : Int)]
    rw [Int.zero_add]
def places (one other : List Int) : List Int × List Int := cpF one other (one.length + other.length) one.length other.length
structure LongOk (one other mine theirs : List Int) (tab : List (List Int)) : Prop where
  r1 : risF (-1) one.length mine = true
  r2 : risF (-1) other.length theirs = true
  e : mine.map (gI one) = theirs.map (gI other)
  t : TabOk one other tab
  k : g tab one.length other.length = mine.length
theorem longOk (one other : List Int) : LongOk one other (places one other).1 (places one other).2 (tabF one other) := by
  obtain ⟨h1, h2, h3, h4, h5⟩ := cp_ok one other (one.length + other.length) one.length other.length (Nat.le_refl _) (Nat.le_refl _) (Nat.le_refl _)
  exact ⟨h4, h5, h3, tabOk_tabF one other, by rw [g_tabF (Nat.le_refl _) (Nat.le_refl _)]; exact h1.symm⟩
end M2

set_option Elab.async false
set_option linter.all false
set_option maxRecDepth 100000
set_option maxHeartbeats 2000000
set_option autoImplicit false
/-! M5: mixings of two rows, in plain Lean. -/
namespace M5
open Lf (gI cutL rngI)
open M1 M2
abbrev Pr := Int × Int
def stp (row one other : List Int) (i j : Int) : List Pr :=
  (if i < one.length ∧ gI one i = gI row (i + j) then [(i + 1, j)] else []) ++ (if j < other.length ∧ gI other j = gI row (i + j) then [(i, j + 1)] else [])
def inb (one other : List Int) (p : Pr) : Bool := decide (0 ≤ p.1 ∧ p.1 ≤ one.length) && decide (0 ≤ p.2 ∧ p.2 ≤ other.length)
def unF (row one other : List Int) (ws : List Pr) : Bool :=
  decide (row.length = one.length + other.length) && (decide (((0 : Int), (0 : Int)) ∈ ws) && (!decide (((one.length : Int), (other.length : Int)) ∈ ws) && (ws.all (inb one other) && ws.all fun p => (stp row one other p.1 p.2).all fun q => decide (q ∈ ws))))
def restF (row ps : List Int) : List Int := ((rngI 0 row.length).filter fun k => !decide (k ∈ ps)).map (gI row)
def mxF (row one other ps : List Int) : Bool := stdF row ps one && decide (restF row ps = other)
theorem mem_stp {row one other : List Int} {i j : Int} {q : Pr} : q ∈ stp row one other i j ↔ (i < one.length ∧ gI one i = gI row (i + j) ∧ q = (i + 1, j)) ∨ (j < other.length ∧ gI other j = gI row (i + j) ∧ q = (i, j + 1)) := by
  unfold stp
  rw [List.mem_append]
  constructor
  · rintro (h | h)
    · split at h
      · rename_i c; exact .inl ⟨c.1, c.2, by simpa using h⟩
      · cases h
    · split at h
      · rename_i c; exact .inr ⟨c.1, c.2, by simpa using h⟩
      · cases h
  · rintro (⟨h1, h2, rfl⟩ | ⟨h1, h2, rfl⟩)
    · exact .inl (by rw [if_pos ⟨h1, h2⟩]; simp)
    · exact .inr (by rw [if_pos ⟨h1, h2⟩]; simp)
theorem inb_iff {one other : List Int} {p : Pr} : inb one other p = true ↔ ∃ i j : Nat, p = ((i : Int), (j : Int)) ∧ i ≤ one.length ∧ j ≤ other.length := by
  unfold inb
  rw [Bool.and_eq_true, decide_eq_true_eq, decide_eq_true_eq]
  constructor
  · rintro ⟨⟨h1, h2⟩, h3, h4⟩
    refine ⟨p.1.toNat, p.2.toNat, ?_, by omega, by omega⟩
    rw [Int.toNat_of_nonneg h1, Int.toNat_of_nonneg h3]
  · rintro ⟨i, j, rfl, h1, h2⟩
    refine ⟨⟨?_, ?_⟩, ?_, ?_⟩ <;> simp <;> omega
/-! what is a mixing -/
inductive Shuf : List Int → List Int → List Int → Prop
  | nil : Shuf [] [] []
  | l {x : Int} {r a b : List Int} : Shuf r a b → Shuf (x :: r) (x :: a) b
  | r {x : Int} {r a b : List Int} : Shuf r a b → Shuf (x :: r) a (x :: b)
theorem Shuf.len {r a b : List Int} (h : Shuf r a b) : r.length = a.length + b.length := by
  induction h with
  | nil => rfl
  | l _ ih => rw [List.length_cons, List.length_cons]; omega
  | r _ ih => rw [List.length_cons, List.length_cons]; omega
theorem Shuf.sym {r a b : List Int} (h : Shuf r a b) : Shuf r b a := by
  induction h with
  | nil => exact .nil
  | l _ ih => exact .r ih
  | r _ ih => exact .l ih
theorem Shuf.snocL {r a b : List Int} (x : Int) (h : Shuf r a b) : Shuf (r ++ [x]) (a ++ [x]) b := by
  induction h with
  | nil => exact .l .nil
  | l _ ih => exact .l ih
  | r _ ih => exact .r ih
theorem Shuf.snocR {r a b : List Int} (x : Int) (h : Shuf r a b) : Shuf (r ++ [x]) a (b ++ [x]) := (h.sym.snocL x).sym
theorem Shuf.cat : ∀ (a b : List Int), Shuf (a ++ b) a b
  | [], [] => .nil
  | [], _ :: b => .r (Shuf.cat [] b)
  | _ :: a, b => .l (Shuf.cat a b)
theorem gI_drop {xs ys : List Int} {i : Nat} {x : Int} (h : xs.drop i = x :: ys) : gI xs (i : Int) = x ∧ i < xs.length ∧ xs.drop (i + 1) = ys := by
  have hl : i < xs.length := by
    rcases Nat.lt_or_ge i xs.length with z | z
    · exact z
    · rw [List.drop_eq_nil_of_le z] at h; cases h
  rw [List.drop_eq_getElem_cons hl] at h
  obtain ⟨h1, h2⟩ := List.cons.inj h
  refine ⟨?_, hl, h2⟩
  rw [gI_nat, List.getD_eq_getElem?_getD, List.getElem?_eq_getElem hl]
  exact h1
theorem drop_gI {xs : List Int} {i : Nat} (h : i < xs.length) : xs.drop i = gI xs (i : Int) :: xs.drop (i + 1) := by
  rw [List.drop_eq_getElem_cons h, gI_nat, List.getD_eq_getElem?_getD, List.getElem?_eq_getElem h]
  rfl
theorem no_un {row one other : List Int} {ws : List Pr} (s : Shuf row one other) : unF row one other ws = false := by
  cases e : unF row one other ws with
  | false => rfl
  | true =>
    unfold unF at e
    rw [Bool.and_eq_true, Bool.and_eq_true, Bool.and_eq_true, Bool.and_eq_true, decide_eq_true_eq, decide_eq_true_eq] at e
    obtain ⟨-, h0, hn, -, hc⟩ := e
    have hn' : ((one.length : Int), (other.length : Int)) ∉ ws := by simpa using hn
    have step : ∀ p, p ∈ ws → ∀ q, q ∈ stp row one other p.1 p.2 → q ∈ ws := fun p hp q hq => of_decide_eq_true (List.all_eq_true.mp (List.all_eq_true.mp hc p hp) q hq)
    have key : ∀ {r a b : List Int}, Shuf r a b → ∀ i j : Nat, i ≤ one.length → j ≤ other.length → row.drop (i + j) = r → one.drop i = a → other.drop j = b → ((i : Int), (j : Int)) ∉ ws := by
      intro r a b s
      induction s with
      | nil =>
        intro i j hi hj _ ha hb hm
        have h1 := congrArg List.length ha
        have h2 := congrArg List.length hb
        rw [List.length_drop] at h1 h2
        have h1' : i = one.length := by simp at h1; omega
        have h2' : j = other.length := by simp at h2; omega
        subst h1' h2'
        exact hn' hm
      | l s ih =>
        intro i j hi hj hr ha hb hm
        obtain ⟨r1, r2, r3⟩ := gI_drop hr
        obtain ⟨a1, a2, a3⟩ := gI_drop ha
        refine ih (i + 1) j (by omega) hj (by rw [show i + 1 + j = i + j + 1 by omega]; exact r3) a3 hb ?_
        refine step _ hm _ (mem_stp.mpr (.inl ⟨by show (i : Int) < _; omega, ?_, ?_⟩))
        · show gI one (i : Int) = gI row ((i : Int) + (j : Int))
          rw [a1, ← Int.natCast_add, r1]
        · rfl
      | r s ih =>
        intro i j hi hj hr ha hb hm
        obtain ⟨r1, r2, r3⟩ := gI_drop hr
        obtain ⟨a1, a2, a3⟩ := gI_drop hb
        refine ih i (j + 1) hi (by omega) (by rw [show i + (j + 1) = i + j + 1 by omega]; exact r3) ha a3 ?_
        refine step _ hm _ (mem_stp.mpr (.inr ⟨by show (j : Int) < _; omega, ?_, ?_⟩))
        · show gI other (j : Int) = gI row ((i : Int) + (j : Int))
          rw [a1, ← Int.natCast_add, r1]
        · rfl
    exact absurd h0 (key s 0 0 (Nat.zero_le _) (Nat.zero_le _) rfl rfl rfl)
/-! all that is come to -/
theorem pig : ∀ (n : Nat) (xs : List Nat), xs.Nodup → (∀ x, x ∈ xs → x < n) → xs.length ≤ n
  | 0, [], _, _ => Nat.le_refl _
  | 0, x :: _, _, h => absurd (h x (List.mem_cons_self ..)) (Nat.not_lt_zero _)
  | n + 1, xs, hn, h => by
    have h1 : (xs.erase n).length ≤ n := pig n (xs.erase n) (hn.erase n) fun x hx => by
      have := h x (List.mem_of_mem_erase hx)
      have : x ≠ n := fun z => by subst z; exact (hn.mem_erase_iff.mp hx).1 rfl
      omega
    rw [List.length_erase] at h1
    split at h1 <;> omega
def code (m : Nat) (p : Pr) : Nat := p.1.toNat * (m + 1) + p.2.toNat
theorem len_in {one other : List Int} {ws : List Pr} (hn : ws.Nodup) (hb : ∀ p, p ∈ ws → inb one other p = true) : ws.length ≤ (one.length + 1) * (other.length + 1) := by
  have h : (ws.map (code other.length)).length ≤ (one.length + 1) * (other.length + 1) := by
    refine pig _ _ ?_ fun x hx => ?_
    · refine List.pairwise_map.mpr (List.Pairwise.imp_of_mem ?_ hn)
      intro p q hp hq hne he
      apply hne
      obtain ⟨i, j, rfl, hi, hj⟩ := inb_iff.mp (hb p hp)
      obtain ⟨i2, j2, rfl, hi2, hj2⟩ := inb_iff.mp (hb q hq)
      unfold code at he
      simp only [Int.toNat_natCast] at he
      have : i = i2 := by
        rcases Nat.lt_trichotomy i i2 with z | z | z
        · have := Nat.mul_le_mul_right (other.length + 1) z
          rw [Nat.succ_mul] at this
          omega
        · exact z
        · have := Nat.mul_le_mul_right (other.length + 1) z
          rw [Nat.succ_mul] at this
          omega
      subst this
      have : j = j2 := by omega
      subst this
      rfl
    · obtain ⟨p, hp, rfl⟩ := List.mem_map.mp hx
      obtain ⟨i, j, rfl, hi, hj⟩ := inb_iff.mp (hb p hp)
      unfold code
      simp only [Int.toNat_natCast]
      have := Nat.mul_le_mul_right (other.length + 1) hi
      rw [Nat.succ_mul]
      omega
  rwa [List.length_map] at h
def ks (L : List (Pr × Pr)) : List Pr := L.map (·.1)
structure Bfs (row one other : List Int) (L : List (Pr × Pr)) (n : Nat) : Prop where
  nd : (ks L).Nodup
  ib : ∀ p, p ∈ ks L → inb one other p = true
  z : ((0 : Int), (0 : Int)) ∈ ks L
  pr : ∀ e, e ∈ L → e.1 = (0, 0) ∨ (e.1 ∈ stp row one other e.2.1 e.2.2 ∧ e.2 ∈ ks L)
  cl : ∀ p, p ∈ ks (L.take n) → ∀ q, q ∈ stp row one other p.1 p.2 → q ∈ ks L
  le : n ≤ L.length
variable {row one other : List Int} {L : List (Pr × Pr)} {n : Nat}
theorem Bfs.start : Bfs row one other [((0, 0), (0, 0))] 0 := ⟨by simp [ks], fun p hp => by
  simp [ks] at hp
  subst hp
  exact inb_iff.mpr ⟨0, 0, rfl, Nat.zero_le _, Nat.zero_le _⟩, by simp [ks], fun e he => by simp at he; subst he; exact .inl rfl, fun p hp => by simp [ks] at hp, Nat.zero_le _⟩
theorem Bfs.size (b : Bfs row one other L n) : L.length ≤ (one.length + 1) * (other.length + 1) := by
  have := len_in b.nd b.ib
  rwa [ks, List.length_map] at this
theorem ks_append (L M : List (Pr × Pr)) : ks (L ++ M) = ks L ++ ks M := by unfold ks; rw [List.map_append]
theorem inb_step {p q : Pr} (hp : inb one other p = true) (hq : q ∈ stp row one other p.1 p.2) : inb one other q = true := by
  obtain ⟨i, j, rfl, hi, hj⟩ := inb_iff.mp hp
  rcases mem_stp.mp hq with ⟨h1, _, rfl⟩ | ⟨h1, _, rfl⟩
  · exact inb_iff.mpr ⟨i + 1, j, rfl, by simp at h1; omega, hj⟩
  · exact inb_iff.mpr ⟨i, j + 1, rfl, hi, by simp at h1; omega⟩
theorem Bfs.more {p q : Pr} (b : Bfs row one other L n) (hp : p ∈ ks L) (hq : q ∈ stp row one other p.1 p.2) (h : q ∉ ks L) : Bfs row one other (L ++ [(q, p)]) n := by
  refine ⟨?_, fun r hr => ?_, ?_, fun e he => ?_, fun r hr s hs => ?_, ?_⟩
  · rw [ks_append]
    refine List.nodup_append.mpr ⟨b.nd, by simp [ks], fun x hx y hy z => ?_⟩
    simp [ks] at hy
    subst hy
    subst z
    exact h hx
  · rw [ks_append, List.mem_append] at hr
    rcases hr with hr | hr
    · exact b.ib r hr
    · simp [ks] at hr
      subst hr
      exact inb_step (b.ib p hp) hq
  · rw [ks_append]
    exact List.mem_append_left _ b.z
  · rw [List.mem_append] at he
    rcases he with he | he
    · rcases b.pr e he with z | ⟨z1, z2⟩
      · exact .inl z
      · exact .inr ⟨z1, by rw [ks_append]; exact List.mem_append_left _ z2⟩
    · simp at he
      subst he
      exact .inr ⟨hq, by rw [ks_append]; exact List.mem_append_left _ hp⟩
  · rw [List.take_append_of_le_length b.le] at hr
    rw [ks_append]
    exact List.mem_append_left _ (b.cl r hr s hs)
  · rw [List.length_append]
    have := b.le
    omega
theorem Bfs.next {e : Pr × Pr} (b : Bfs row one other L n) (he : L[n]? = some e) (h : ∀ q, q ∈ stp row one other e.1.1 e.1.2 → q ∈ ks L) : Bfs row one other L (n + 1) := by
  have hl := (List.getElem?_eq_some_iff.mp he).1
  refine ⟨b.nd, b.ib, b.z, b.pr, fun p hp q hq => ?_, by omega⟩
  rw [List.take_add_one, he, ks_append, List.mem_append] at hp
  rcases hp with hp | hp
  · exact b.cl p hp q hq
  · simp [ks] at hp
    subst hp
    exact h q hq
theorem Bfs.un (b : Bfs row one other L n) (hn : L.length ≤ n) (hl : row.length = one.length + other.length) (h : ((one.length : Int), (other.length : Int)) ∉ ks L) : unF row one other (ks L) = true := by
  unfold unF
  rw [decide_eq_true hl, decide_eq_true b.z, decide_eq_false h, List.all_eq_true.mpr b.ib]
  simp only [Bool.true_and, Bool.not_false]
  refine List.all_eq_true.mpr fun p hp => List.all_eq_true.mpr fun q hq => decide_eq_true (b.cl p ?_ q hq)
  rw [List.take_of_length_le hn]
  exact hp
/-! the way back -/
theorem risF_gt (many : Int) : ∀ (ps : List Int) (l : Int), risF l many ps = true → ∀ p, p ∈ ps → l < p
  | [], _, _, p, hp => by cases hp
  | x :: r, l, h, p, hp => by
    rw [risF, Bool.and_eq_true, decide_eq_true_eq] at h
    rcases List.mem_cons.mp hp with rfl | hp
    · exact h.1.1
    · have := risF_gt many r x h.2 p hp
      omega
theorem rngI_cons' (lo : Int) (n : Nat) : rngI lo (n + 1) = lo :: rngI (lo + 1) n := by
  unfold rngI
  rw [List.range_succ_eq_map, List.map_cons, List.map_map]
  congr 1
  · omega
  · apply List.map_congr_left
    intro i _
    show lo + ((i + 1 : Nat) : Int) = lo + 1 + (i : Int)
    omega
theorem mem_rngI {lo k : Int} {n : Nat} (h : k ∈ rngI lo n) : lo ≤ k := by
  unfold rngI at h
  obtain ⟨i, _, rfl⟩ := List.mem_map.mp h
  omega
structure Way (row one other : List Int) (i j : Nat) (ps : List Int) : Prop where
  ri : risF ((i + j : Nat) - 1) row.length ps = true
  on : ps.map (gI row) = one.drop i
  ot : ((rngI (i + j : Nat) (row.length - (i + j))).filter fun k => !decide (k ∈ ps)).map (gI row) = other.drop j
  li : i ≤ one.length
  lj : j ≤ other.length
theorem Way.start (hl : row.length = one.length + other.length) : Way row one other one.length other.length [] := by
  refine ⟨rfl, by rw [List.drop_length]; rfl, ?_, Nat.le_refl _, Nat.le_refl _⟩
  rw [List.drop_length, hl, Nat.sub_self]
  rfl
theorem Way.fst {i j : Nat} {ps : List Int} (hl : row.length = one.length + other.length) (w : Way row one other (i + 1) j ps) (h : gI one (i : Int) = gI row ((i : Int) + (j : Int))) : Way row one other i j (((i + j : Nat) : Int) :: ps) := by
  have hi := w.li
  have hj := w.lj
  refine ⟨?_, ?_, ?_, by omega, hj⟩
  · rw [risF, Bool.and_eq_true, decide_eq_true_eq]
    refine ⟨⟨by omega, by omega⟩, ?_⟩
    have := w.ri
    rw [show ((i + 1 + j : Nat) : Int) - 1 = ((i + j : Nat) : Int) by omega] at this
    exact this
  · rw [List.map_cons, w.on, drop_gI (show i < one.length by omega), h, Int.natCast_add]
  · have e : row.length - (i + j) = (row.length - (i + 1 + j)) + 1 := by omega
    rw [e, rngI_cons', List.filter_cons_of_neg (by simp), ← w.ot]
    congr 1
    rw [show ((i + j : Nat) : Int) + 1 = ((i + 1 + j : Nat) : Int) by omega]
    refine List.filter_congr fun k hk => ?_
    have := mem_rngI hk
    have hk2 : k ≠ ((i + j : Nat) : Int) := by omega
    rw [decide_eq_decide.mpr (show k ∈ ((i + j : Nat) : Int) :: ps ↔ k ∈ ps from ⟨fun z => (List.mem_cons.mp z).resolve_left hk2, fun z => List.mem_cons_of_mem _ z⟩)]
theorem Way.snd {i j : Nat} {ps : List Int} (hl : row.length = one.length + other.length) (w : Way row one other i (j + 1) ps) (h : gI other (j : Int) = gI row ((i : Int) + (j : Int))) : Way row one other i j ps := by
  have hi := w.li
  have hj := w.lj
  refine ⟨?_, w.on, ?_, hi, by omega⟩
  · have := w.ri
    exact risF_weak _ ps _ _ (by omega) this
  · have e : row.length - (i + j) = (row.length - (i + (j + 1))) + 1 := by omega
    have hne : ((i + j : Nat) : Int) ∉ ps := fun z => by
      have := risF_gt _ ps _ w.ri _ z
      omega
    rw [e, rngI_cons', List.filter_cons_of_pos (by rw [decide_eq_false hne]; rfl), List.map_cons]
    rw [show ((i + j : Nat) : Int) + 1 = ((i + (j + 1) : Nat) : Int) by omega, w.ot, drop_gI (show j < other.length by omega), h, Int.natCast_add]
theorem Way.all {ps : List Int} (w : Way row one other 0 0 ps) : mxF row one other ps = true := by
  unfold mxF stdF restF
  have h1 := w.on
  have h2 := w.ot
  have h3 := w.ri
  rw [List.drop_zero] at h1 h2
  rw [show ((0 + 0 : Nat) : Int) - 1 = -1 by omega] at h3
  rw [h3, decide_eq_true h1, decide_eq_true (show ps.length = one.length by rw [← h1, List.length_map])]
  rw [decide_eq_true (show List.map (gI row) (List.filter (fun k => !decide (k ∈ ps)) (rngI 0 row.length)) = other from h2)]
  rfl
/-! places more, pairs more -/
theorem un_more (ws : List Pr) : unF row one other (ws ++ [((one.length : Int), (other.length : Int))]) = false := by
  unfold unF
  rw [decide_eq_true (show ((one.length : Int), (other.length : Int)) ∈ ws ++ [((one.length : Int), (other.length : Int))] from by simp)]
  simp
end M5

set_option Elab.async false
set_option linter.all false
set_option maxRecDepth 100000
set_option maxHeartbeats 2000000
set_option autoImplicit false
/-! M4: cuts between which all kinds stand, in plain Lean. -/
namespace M4
open Lf (gI cutL rngI sortU)
open M1 M2
def inr (k x : Int) : Bool := decide (0 ≤ x) && decide (x < k)
theorem inr_iff {k x : Int} : inr k x = true ↔ 0 ≤ x ∧ x < k := by unfold inr; rw [Bool.and_eq_true, decide_eq_true_eq, decide_eq_true_eq]
def cnt (k : Int) (xs : List Int) : Nat := (sortU (xs.filter (inr k))).length
def cutsF (row : List Int) (k b : Int) : List Int → Bool
  | [] => true
  | c :: r => (decide (b < c) && decide (c ≤ row.length)) && (decide ((cnt k (cutL row (some b) (some c)) : Int) = k) && cutsF row k c r)
def misF (row : List Int) (k : Int) (cuts word : List Int) : Bool :=
  cutsF row k 0 cuts && (decide ((word.length : Int) = (cuts.length : Int) + 1) && (word.all (inr k) && !isLeft row word))
/-- distinct numbers in bounds -/
theorem pigI {k : Nat} {xs : List Int} (hn : xs.Nodup) (h : ∀ x, x ∈ xs → 0 ≤ x ∧ x < k) : xs.length ≤ k := by
  have := M5.pig k (xs.map Int.toNat) (List.pairwise_map.mpr (List.Pairwise.imp_of_mem (fun {a b} ha hb hne he => hne (by
    have := h a ha
    have := h b hb
    omega)) hn)) (fun x hx => by
    obtain ⟨y, hy, rfl⟩ := List.mem_map.mp hx
    have := h y hy
    omega)
  rwa [List.length_map] at this
theorem cnt_nodup (k : Int) (xs : List Int) : (sortU (xs.filter (inr k))).Nodup := Lf.nodup_of_pw (Lf.pw_sortU _)
theorem cnt_mem {k : Int} {xs : List Int} {x : Int} : x ∈ sortU (xs.filter (inr k)) ↔ x ∈ xs ∧ 0 ≤ x ∧ x < k := by rw [Lf.mem_sortU, List.mem_filter, inr_iff]
theorem cnt_le {k : Int} (hk : 0 ≤ k) (xs : List Int) : (cnt k xs : Int) ≤ k := by
  have := pigI (k := k.toNat) (cnt_nodup k xs) (fun x hx => by have := (cnt_mem.mp hx).2; omega)
  unfold cnt
  omega
theorem cnt_all {k : Int} {xs : List Int} (h : (cnt k xs : Int) = k) {x : Int} (h0 : 0 ≤ x) (h1 : x < k) : x ∈ xs := by
  apply Classical.byContradiction
  intro hx
  have := pigI (k := k.toNat) (xs := x :: sortU (xs.filter (inr k))) (List.nodup_cons.mpr ⟨fun m => hx (cnt_mem.mp m).1, cnt_nodup k xs⟩) (fun y hy => by
    rcases List.mem_cons.mp hy with rfl | hy
    · omega
    · have := (cnt_mem.mp hy).2; omega)
  rw [List.length_cons] at this
  unfold cnt at h
  omega
theorem cnt_eq {k : Int} {xs ks : List Int} (hn : ks.Nodup) (h : ∀ x, x ∈ ks ↔ x ∈ xs ∧ 0 ≤ x ∧ x < k) : cnt k xs = ks.length :=
  (Lf.len_sortU hn fun x => by rw [h, List.mem_filter, inr_iff]).symm
/-- the other order: sorted first, looked through then -/
theorem cnt_sorted (k : Int) (xs : List Int) : ((sortU xs).filter (inr k)).length = cnt k xs :=
  (cnt_eq ((Lf.nodup_of_pw (Lf.pw_sortU xs)).filter _) fun x => by rw [List.mem_filter, Lf.mem_sortU, inr_iff]).symm
/-! words that are left -/
theorem cut_mid (row : List Int) {b c : Int} (h : 0 ≤ b) (h2 : 0 ≤ c) : cutL row (some b) (some c) = (row.drop b.toNat).take (c.toNat - b.toNat) := Lf.cutL_mid row h h2
theorem sub_single {x : Int} {xs : List Int} (h : x ∈ xs) : [x].Sublist xs := List.singleton_sublist.mpr h
theorem word_left {row : List Int} {k : Int} : ∀ (cuts word : List Int) (b : Int), 0 ≤ b → cutsF row k b cuts = true → word.all (inr k) = true → word.length ≤ cuts.length → word.Sublist (row.drop b.toNat)
  | _, [], _, _, _, _, _ => List.nil_sublist _
  | [], _ :: _, _, _, _, _, h => absurd h (by simp)
  | c :: cuts, x :: word, b, hb, h, hw, hl => by
    rw [cutsF, Bool.and_eq_true, Bool.and_eq_true, Bool.and_eq_true, decide_eq_true_eq, decide_eq_true_eq, decide_eq_true_eq] at h
    obtain ⟨⟨h1, h2⟩, h3, h4⟩ := h
    rw [List.all_cons, Bool.and_eq_true, inr_iff] at hw
    have ih := word_left cuts word c (by omega) h4 hw.2 (by rw [List.length_cons, List.length_cons] at hl; omega)
    have hx := cnt_all h3 hw.1.1 hw.1.2
    rw [cut_mid row hb (by omega)] at hx
    have e : row.drop b.toNat = (row.drop b.toNat).take (c.toNat - b.toNat) ++ row.drop c.toNat := by
      conv => lhs; rw [← List.take_append_drop (c.toNat - b.toNat) (row.drop b.toNat)]
      rw [List.drop_drop, show b.toNat + (c.toNat - b.toNat) = c.toNat by omega]
    rw [e]
    exact List.Sublist.append (sub_single hx) ih
theorem word_isLeft {row : List Int} {k : Int} {cuts word : List Int} (h : cutsF row k 0 cuts = true) (hw : word.all (inr k) = true) (hl : word.length ≤ cuts.length) : (eF 0 row word).length = word.length := by
  have := word_left cuts word 0 (Int.le_refl _) h hw hl
  exact (eF_sub 0 row word).mpr this
theorem not_left_iff (row word : List Int) : (!isLeft row word) = decide (((eF 0 row word).length : Int) < (word.length : Int)) := by
  rw [isLeft_eF, ← decide_not]
  apply decide_eq_decide.mpr
  have := eF_len 0 row word
  omega
/-! how they are found -/
def lastC (b : Int) : List Int → Int
  | [] => b
  | c :: r => lastC c r
theorem lastC_snoc (c : Int) : ∀ (cs : List Int) (b : Int), lastC b (cs ++ [c]) = c
  | [], _ => rfl
  | x :: r, _ => lastC_snoc c r x
theorem cutsF_snoc {row : List Int} {k : Int} (c : Int) : ∀ (cs : List Int) (b : Int), cutsF row k b (cs ++ [c]) = (cutsF row k b cs && ((decide (lastC b cs < c) && decide (c ≤ row.length)) && decide ((cnt k (cutL row (some (lastC b cs)) (some c)) : Int) = k)))
  | [], b => by rw [List.nil_append, cutsF, cutsF, cutsF, Bool.and_true, Bool.true_and]; rfl
  | x :: r, b => by rw [show lastC b (x :: r) = lastC x r from rfl, List.cons_append, cutsF, cutsF, cutsF_snoc c r x]; simp only [Bool.and_assoc]
theorem sub_snoc {xs ys : List Int} {x y : Int} (h : (xs ++ [x]).Sublist (ys ++ [y])) : (xs ++ [x]).Sublist ys ∨ x = y ∧ xs.Sublist ys := by
  have h' := List.reverse_sublist.mpr h
  rw [List.reverse_append, List.reverse_append, List.reverse_singleton, List.reverse_singleton, List.singleton_append, List.singleton_append] at h'
  cases h' with
  | cons _ h' =>
    refine .inl (List.reverse_sublist.mp ?_)
    rw [List.reverse_append]
    exact h'
  | cons_cons _ h' => exact .inr ⟨rfl, List.reverse_sublist.mp h'⟩
theorem sub_snoc' {xs ys : List Int} {x y : Int} (h : (xs ++ [x]).Sublist (ys ++ [y])) : xs.Sublist ys := by
  rcases sub_snoc h with h | h
  · exact (List.sublist_append_left _ _).trans h
  · exact h.2
def insK (met : List Int) (s : Int) : List Int := if s ∈ met then met else met ++ [s]
theorem mem_insK {met : List Int} {s x : Int} : x ∈ insK met s ↔ x ∈ met ∨ x = s := by
  unfold insK
  split
  · rename_i h
    exact ⟨.inl, fun z => z.elim id fun e => e ▸ h⟩
  · rw [List.mem_append, List.mem_singleton]
theorem nodup_insK {met : List Int} {s : Int} (h : met.Nodup) : (insK met s).Nodup := by
  unfold insK
  split
  · exact h
  · rename_i hs
    refine List.nodup_append.mpr ⟨h, by simp, fun x hx y hy z => ?_⟩
    rw [List.mem_singleton] at hy
    subst hy
    subst z
    exact hs hx
/-- where the walk stands behind the first n signs -/
structure Mst (row : List Int) (k : Int) (n : Nat) (cuts word met : List Int) : Prop where
  cu : cutsF row k 0 cuts = true
  b0 : 0 ≤ lastC 0 cuts
  bn : lastC 0 cuts ≤ n
  ln : n ≤ row.length
  wl : word.length = cuts.length
  wr : word.all (inr k) = true
  nd : met.Nodup
  mm : ∀ x, x ∈ met ↔ x ∈ (row.take n).drop (lastC 0 cuts).toNat ∧ 0 ≤ x ∧ x < k
  ml : (met.length : Int) < k
  nl : ∀ x, (word ++ [x]).Sublist (row.take n) → x ∈ (row.take n).drop (lastC 0 cuts).toNat
  cl : cuts.length ≤ n
variable {row : List Int} {k : Int} {n : Nat} {cuts word met : List Int} {s : Int}
theorem Mst.start (hk : 1 ≤ k) : Mst row k 0 [] [] [] := ⟨rfl, Int.le_refl _, Int.le_refl _, Nat.zero_le _, rfl, rfl, List.nodup_nil, fun x => by simp, by show (0 : Int) < k; omega, (fun x h => by
  rw [List.take_zero] at h
  cases h), Nat.zero_le _⟩
theorem take_n (h : row[n]? = some s) : row.take (n + 1) = row.take n ++ [s] := by rw [List.take_add_one, h]; rfl
theorem Mst.dropS (m : Mst row k n cuts word met) (h : row[n]? = some s) : (row.take (n + 1)).drop (lastC 0 cuts).toNat = (row.take n).drop (lastC 0 cuts).toNat ++ [s] := by
  have := m.bn
  have := m.b0
  have := m.ln
  rw [take_n h, List.drop_append_of_le_length (by rw [List.length_take]; omega)]
theorem Mst.nlS (m : Mst row k n cuts word met) (h : row[n]? = some s) : ∀ x, (word ++ [x]).Sublist (row.take (n + 1)) → x ∈ (row.take (n + 1)).drop (lastC 0 cuts).toNat := fun x hx => by
  rw [m.dropS h, List.mem_append, List.mem_singleton]
  rw [take_n h] at hx
  rcases sub_snoc hx with hx | ⟨rfl, _⟩
  · exact .inl (m.nl x hx)
  · exact .inr rfl
/-- a sign out of bounds -/
theorem Mst.out (m : Mst row k n cuts word met) (h : row[n]? = some s) (hs : inr k s = false) : Mst row k (n + 1) cuts word met := by
  have hl := (List.getElem?_eq_some_iff.mp h).1
  have hs' : ¬ (0 ≤ s ∧ s < k) := fun z => by rw [inr_iff.mpr z] at hs; cases hs
  refine ⟨m.cu, m.b0, by have := m.bn; omega, hl, m.wl, m.wr, m.nd, fun x => ?_, m.ml, m.nlS h, by have := m.cl; omega⟩
  rw [m.dropS h, List.mem_append, List.mem_singleton, m.mm]
  constructor
  · rintro ⟨h1, h2⟩
    exact ⟨.inl h1, h2⟩
  · rintro ⟨h1 | rfl, h2⟩
    · exact ⟨h1, h2⟩
    · exact absurd h2 hs'
theorem Mst.mmS (m : Mst row k n cuts word met) (h : row[n]? = some s) (hs : inr k s = true) : ∀ x, x ∈ insK met s ↔ x ∈ (row.take (n + 1)).drop (lastC 0 cuts).toNat ∧ 0 ≤ x ∧ x < k := fun x => by
  rw [mem_insK, m.dropS h, List.mem_append, List.mem_singleton, m.mm]
  constructor
  · rintro (⟨h1, h2⟩ | rfl)
    · exact ⟨.inl h1, h2⟩
    · exact ⟨.inr rfl, inr_iff.mp hs⟩
  · rintro ⟨h1 | rfl, h2⟩
    · exact .inl ⟨h1, h2⟩
    · exact .inr rfl
theorem Mst.ins (m : Mst row k n cuts word met) (h : row[n]? = some s) (hs : inr k s = true) (hf : ((insK met s).length : Int) ≠ k) : Mst row k (n + 1) cuts word (insK met s) := by
  have hl := (List.getElem?_eq_some_iff.mp h).1
  have hk : 0 ≤ k := by have := m.ml; omega
  have hle := pigI (k := k.toNat) (nodup_insK (s := s) m.nd) (fun x hx => by have := ((m.mmS h hs x).mp hx).2; omega)
  exact ⟨m.cu, m.b0, by have := m.bn; omega, hl, m.wl, m.wr, nodup_insK m.nd, m.mmS h hs, by omega, m.nlS h, by have := m.cl; omega⟩
theorem Mst.full (m : Mst row k n cuts word met) (h : row[n]? = some s) (hs : inr k s = true) (hf : ((insK met s).length : Int) = k) : Mst row k (n + 1) (cuts ++ [(n : Int) + 1]) (word ++ [s]) [] := by
  have hl := (List.getElem?_eq_some_iff.mp h).1
  have b0 := m.b0
  have bn := m.bn
  have hmt : s ∉ met := fun z => by
    have := m.ml
    unfold insK at hf
    rw [if_pos z] at hf
    omega
  have hnew : s ∉ (row.take n).drop (lastC 0 cuts).toNat := fun z => hmt ((m.mm s).mpr ⟨z, inr_iff.mp hs⟩)
  have el : lastC 0 (cuts ++ [(n : Int) + 1]) = (n : Int) + 1 := lastC_snoc _ _ _
  have ed : (row.take (n + 1)).drop (lastC 0 (cuts ++ [(n : Int) + 1])).toNat = [] := by
    rw [el]
    exact List.drop_eq_nil_of_le (by rw [List.length_take]; omega)
  have hcnt : (cnt k (cutL row (some (lastC 0 cuts)) (some ((n : Int) + 1))) : Int) = k := by
    have q : cnt k (cutL row (some (lastC 0 cuts)) (some ((n : Int) + 1))) = (insK met s).length := by
      refine cnt_eq (nodup_insK m.nd) fun x => ?_
      rw [m.mmS h hs, cut_mid row b0 (by omega)]
      rw [show ((n : Int) + 1).toNat = n + 1 by omega, ← List.drop_take]
    rw [q]
    exact hf
  refine ⟨?_, by rw [el]; omega, by rw [el]; omega, hl, by rw [List.length_append, List.length_append, m.wl]; rfl, ?_, List.nodup_nil, fun x => ?_, by show (0 : Int) < k; have := m.ml; omega, fun x hx => ?_, by rw [List.length_append, List.length_singleton]; have := m.cl; omega⟩
  · rw [cutsF_snoc, m.cu, decide_eq_true (show lastC 0 cuts < (n : Int) + 1 by omega), decide_eq_true (show (n : Int) + 1 ≤ (row.length : Int) by omega), decide_eq_true hcnt]
    rfl
  · rw [List.all_append, m.wr, List.all_cons, hs]
    rfl
  · rw [ed]
    simp
  · rw [take_n h] at hx
    exact absurd (m.nl s (sub_snoc' hx)) hnew
theorem sub_len : ∀ {xs ys : List Int}, xs.Nodup → (∀ x, x ∈ xs → x ∈ ys) → xs.length ≤ ys.length
  | [], _, _, _ => Nat.zero_le _
  | x :: xs, ys, hn, h => by
    have hn' := List.nodup_cons.mp hn
    have := sub_len (xs := xs) (ys := ys.erase x) hn'.2 fun y hy => (List.mem_erase_of_ne (fun z => by subst z; exact hn'.1 hy)).mpr (h y (List.mem_cons_of_mem _ hy))
    rw [List.length_erase_of_mem (h x (List.mem_cons_self ..))] at this
    have := List.length_pos_of_mem (h x (List.mem_cons_self ..))
    rw [List.length_cons]
    omega
theorem run_len {t : Nat} (h : ∀ i : Nat, i < t → (i : Int) ∈ met) : t ≤ met.length := by
  have := sub_len (xs := (List.range t).map fun i : Nat => (i : Int)) (ys := met) (List.pairwise_map.mpr (List.Pairwise.imp (fun {a b} hne he => hne (by omega)) List.nodup_range)) (fun x hx => by
    obtain ⟨i, hi, rfl⟩ := List.mem_map.mp hx
    exact h i (List.mem_range.mp hi))
  rwa [List.length_map, List.length_range] at this
theorem Mst.fin (m : Mst row k row.length cuts word met) {t : Nat} (hm : (t : Int) ∉ met) (ht : (t : Int) < k) : misF row k cuts (word ++ [(t : Int)]) = true := by
  unfold misF
  rw [m.cu, List.all_append, m.wr, List.all_cons, inr_iff.mpr ⟨by omega, ht⟩, List.length_append, List.length_singleton, m.wl, decide_eq_true (show ((cuts.length + 1 : Nat) : Int) = (cuts.length : Int) + 1 by omega), isLeft_sub, decide_eq_false]
  · rfl
  · intro h
    have := m.nl (t : Int) (by rw [List.take_length]; exact h)
    exact hm ((m.mm _).mpr ⟨this, by omega, ht⟩)
theorem mis_cut (c : Int) (h : (row.length : Int) < c) : misF row k (cuts ++ [c]) word = false := by
  unfold misF
  rw [cutsF_snoc, decide_eq_false (show ¬ c ≤ (row.length : Int) by omega), Bool.and_false, Bool.false_and, Bool.and_false, Bool.false_and]
theorem mis_word (h : misF row k cuts word = true) (x : Int) : misF row k cuts (word ++ [x]) = false := by
  unfold misF at h ⊢
  rw [Bool.and_eq_true, Bool.and_eq_true, decide_eq_true_eq] at h
  rw [List.length_append, List.length_singleton, decide_eq_false (by omega), Bool.false_and, Bool.and_false]
theorem cuts_len {row : List Int} {k : Int} : ∀ (cuts : List Int) (b : Int), 0 ≤ b → b ≤ row.length → cutsF row k b cuts = true → (cuts.length : Int) ≤ row.length - b
  | [], b, _, h2, _ => by rw [List.length_nil]; omega
  | c :: r, b, h, h2, e => by
    rw [cutsF, Bool.and_eq_true, Bool.and_eq_true, Bool.and_eq_true, decide_eq_true_eq, decide_eq_true_eq] at e
    have := cuts_len r c (by omega) e.1.2 e.2.2
    rw [List.length_cons]
    omega
end M4

set_option Elab.async false
set_option linter.all false
set_option maxRecDepth 100000
set_option maxHeartbeats 2000000
set_option autoImplicit false
namespace Kc
open PySem L2 Lf
def top (i : Nat) : Stmt := PySem.Challenge.pw_leftin_k04_whole_missing.main.body.getD i (.Pass ⟨0, 0, 0, 0⟩)
abbrev s_is_number : Stmt := top 5
abbrev s_check_row : Stmt := top 6
abbrev s_check_kinds : Stmt := top 7
abbrev s_earliest : Stmt := top 8
abbrev s_are_rising : Stmt := top 11
abbrev s_stands : Stmt := top 12
abbrev s_Left_init : Stmt := inClass (top 13) 0
abbrev s_Left_shows : Stmt := inClass (top 13) 1
abbrev s_Short_init : Stmt := inClass (top 14) 0
abbrev s_Short_shows : Stmt := inClass (top 14) 1
abbrev s_is_table : Stmt := top 15
abbrev s_Longest_init : Stmt := inClass (top 16) 0
abbrev s_Longest_shows : Stmt := inClass (top 16) 1
abbrev s_Both_init : Stmt := inClass (top 17) 0
abbrev s_Both_shows : Stmt := inClass (top 17) 1
abbrev s_Missing_init : Stmt := inClass (top 18) 0
abbrev s_Missing_shows : Stmt := inClass (top 18) 1
abbrev s_Mixed_init : Stmt := inClass (top 19) 0
abbrev s_Mixed_shows : Stmt := inClass (top 19) 1
abbrev s_Unmixed_init : Stmt := inClass (top 20) 0
abbrev s_Unmixed_shows : Stmt := inClass (top 20) 1
abbrev s_steps_on : Stmt := top 21
abbrev s_left : Stmt := top 23
abbrev s_missing : Stmt := top 24
abbrev s_law_numbers : Stmt := top 26
abbrev s_law_is_left : Stmt := top 27
abbrev s_law_missed : Stmt := top 28
abbrev s_law_right : Stmt := top 29
abbrev s_law : Stmt := top 30
end Kc

set_option Elab.async false
set_option linter.all false
set_option maxRecDepth 100000
set_option maxHeartbeats 2000000
set_option autoImplicit false
namespace Kc
open PySem L2 Lf M1
/-- the built-ins' names are their own -/
structure Blt (mg : Str → Option Value) : Prop where
  isinstance : mg "isinstance" = none
  int : mg "int" = none
  bool : mg "bool" = none
  list : mg "list" = none
  tuple : mg "tuple" = none
  len : mg "len" = none
  range : mg "range" = none
  reversed : mg "reversed" = none
  enumerate : mg "enumerate" = none
  zip : mg "zip" = none
  sum : mg "sum" = none
  min : mg "min" = none
  max : mg "max" = none
  all : mg "all" = none
  any : mg "any" = none
  set : mg "set" = none
  sorted : mg "sorted" = none
theorem boot_int : bootBuiltins "int" = some (.type "int") := by decide +kernel
theorem boot_bool : bootBuiltins "bool" = some (.type "bool") := by decide +kernel
theorem boot_list : bootBuiltins "list" = some (.type "list") := by decide +kernel
theorem boot_tuple : bootBuiltins "tuple" = some (.type "tuple") := by decide +kernel
theorem all_true {α : Type} (xs : List α) : (xs.map fun _ => true).all id = true := by
  induction xs with
  | nil => rfl
  | cons x r ih => simp [ih]
theorem gI_at {ns : List Int} {i : Int} {n : Nat} (h : i = (n : Int)) : gI ns i = ns.getD n 0 := by
  subst h
  unfold gI
  rw [if_pos (by omega), Int.toNat_natCast]
theorem gI_last (ns : List Int) (x : Int) : gI (ns ++ [x]) (-1) = x := by
  unfold gI
  rw [if_neg (by decide)]
  simp
  rw [show (-1 + ((ns.length : Int) + 1)).toNat = ns.length by omega]
  simp
theorem setI_at {ns : List Int} {i v : Int} {n : Nat} (h : i = (n : Int)) : setI ns i v = ns.set n v := by
  subst h
  unfold setI
  rw [if_pos (by omega), Int.toNat_natCast]
theorem inR_at {m : Nat} {i : Int} {n : Nat} (h : i = (n : Int)) (hn : n < m) : inR m i := by
  subst h
  exact ⟨by omega, by omega⟩
theorem rngI_cons (lo : Int) (n : Nat) : rngI lo (n + 1) = lo :: rngI (lo + 1) n := by
  unfold rngI
  rw [List.range_succ_eq_map, List.map_cons, List.map_map]
  congr 1
  · omega
  · apply List.map_congr_left
    intro i _
    show lo + ((i + 1 : Nat) : Int) = lo + 1 + (i : Int)
    omega
theorem rngI_succ (lo : Int) (n : Nat) : rngI lo (n + 1) = rngI lo n ++ [lo + (n : Int)] := by
  unfold rngI
  rw [List.range_succ, List.map_append]
  rfl
theorem ji_cells {X : Cx} {tg e : Expr} {la : Lv} {ρ : PEnv} {d : D} {ns : List Int} (h : JE X la e ρ d) (hd : d = .scr ns ∨ d = .il ns) (z : Lv.le la .imm = true := by rfl) : JI X tg e .frs ρ (ns.map D.int) := by
  rcases hd with rfl | rfl
  · exact ji_listS h z
  · exact ji_list h z
section
variable {P : Program} {w : World} {K : PySem.W.Frag} {mg : Str → Option Value} {base : Heap}
theorem sc_is_number : FnScope ["thing"] ["thing"] (defScope s_is_number) := ⟨rfl, rfl, rfl, by decide +kernel, rfl, by decide +kernel, by decide +kernel⟩
def p_is_number (ds : List D) : Prop := ∃ i, ds = [.int i]
def g_is_number (_ : List D) : D := .bl true
theorem ok_is_number {f : Addr} {fd : FuncData} (F : Fun K "is_number" "is_number" s_is_number f fd) (T : Blt mg) : FnOk P w K mg base CX0 1 f fd ["thing"] (spF K p_is_number g_is_number) := by
  refine fn_ok (k := 0) F sc_is_number (by rintro ds ⟨i, rfl⟩; rfl) fun cdv A outer s H E hr ds hp => ?_
  obtain ⟨i, rfl⟩ := hp
  exact jss_one (js_ret (je_and (je_isT (b := true) T.isinstance T.int boot_int (je_v 0 rfl) (kit_ty (by decide +kernel)) trivial) (fun _ => (je_one (je_not (je_isT (b := false) T.isinstance T.bool boot_bool (je_v 0 rfl) (kit_ty (by decide +kernel)) trivial))))) rfl)
theorem sc_check_row : FnScope ["row", "sign"] ["row"] (defScope s_check_row) := ⟨rfl, rfl, rfl, by decide +kernel, rfl, by decide +kernel, by decide +kernel⟩
def p_check_row (ds : List D) : Prop := ∃ ns : List Int, ds = [.il ns] ∧ ns.length ≤ 1000
def g_check_row (_ : List D) : D := .non
theorem ok_check_row {f : Addr} {fd : FuncData} (F : Fun K "check_row" "check_row" s_check_row f fd) (T : Blt mg) (C_is_number : Callee P w K mg base 1 "is_number" p_is_number g_is_number) : FnOk P w K mg base CX0 2 f fd ["row"] (spF K p_check_row g_check_row) := by
  refine fn_ok (k := 1) F sc_check_row (by rintro ds ⟨i, rfl, _⟩; rfl) fun cdv A outer s H E hr ds hp => ?_
  obtain ⟨ns, rfl, hz⟩ := hp
  refine jss_one (js_if (JW.pt (jw_or (jt_not (jt_v (je_isT (b := true) T.isinstance T.list boot_list (je_v 0 rfl) (kit_ty (by decide +kernel)) trivial))) (fun _ => (jw_or1 (jt_not (jt_v (je_all T.all (JO.je (jo_mapB (x := "sign") (n := 1) (f := fun _ => true) (ji_list (je_v 0 rfl)) (fun _ _ _ _ _ _ => jgb_name 1 sc_check_row.nd) (fun k hk _ _ _ _ _ => (je_call C_is_number hr (ja_cons (je_v 1 rfl) ja_nil) ⟨_, rfl⟩)) sc_check_row.nd (blkOk_by (N := ["row", "sign"]) (sc := defScope s_check_row) (by decide +kernel)) (Nat.le_trans hz (by decide))))))))))) (fun c => ?_) (fun c => ?_))
  · simp [all_true] at c
  · exact jss_nil rfl

theorem sc_law_numbers : FnScope ["_law_found", "_law_one"] ["_law_found"] (defScope s_law_numbers) := ⟨rfl, rfl, rfl, by decide +kernel, rfl, by decide +kernel, by decide +kernel⟩
def p_law_numbers (ds : List D) : Prop := ∃ ns : List Int, ds = [.il ns] ∧ ns.length ≤ 1000
def g_law_numbers (_ : List D) : D := .bl true
theorem ok_law_numbers {f : Addr} {fd : FuncData} (F : Fun K "_law_numbers" "_law_numbers" s_law_numbers f fd) (T : Blt mg) : FnOk P w K mg base CX0 1 f fd ["_law_found"] (spF K p_law_numbers g_law_numbers) := by
  refine fn_ok (k := 0) F sc_law_numbers (by rintro ds ⟨i, rfl, _⟩; rfl) fun cdv A outer s H E hr ds hp => ?_
  obtain ⟨ns, rfl, hz⟩ := hp
  refine jss_cons (js_if (jt_not (jt_v (je_isT (b := true) T.isinstance T.list boot_list (je_v 0 rfl) (kit_ty (by decide +kernel)) trivial))) (fun c => ?_) (fun c => ?_))
  · cases c
  refine jss_nil ?_
  refine jss_one (js_ret (je_all T.all (JO.je (jo_mapB (x := "_law_one") (n := 1) (f := fun _ => true) (ji_list (je_v 0 rfl)) (fun _ _ _ _ _ _ => jgb_name 1 sc_law_numbers.nd) (fun k hk _ _ _ _ _ => (je_and (v := true) (u := true) (je_isT (b := true) T.isinstance T.int boot_int (je_v 1 rfl) (kit_ty (by decide +kernel)) trivial) (fun _ => (je_one (je_not (v := false) (je_isT (b := false) T.isinstance T.bool boot_bool (je_v 1 rfl) (kit_ty (by decide +kernel)) trivial)))))) sc_law_numbers.nd (blkOk_by (N := ["_law_found", "_law_one"]) (sc := defScope s_law_numbers) (by decide +kernel)) (by omega)))) ?_)
  show D.bl _ = .bl true
  rw [all_true]

theorem sc_earliest : FnScope ["row", "other", "found", "place", "sign"] ["row", "other"] (defScope s_earliest) := ⟨rfl, rfl, rfl, by decide +kernel, rfl, by decide +kernel, by decide +kernel⟩
def p_earliest (ds : List D) : Prop := ∃ ns ms : List Int, ds = [.il ns, .il ms] ∧ ns.length ≤ 1000 ∧ ms.length ≤ 1000
def g_earliest (ds : List D) : D := match ds with | [.il ns, .il ms] => .il (eF 0 ns ms) | _ => .non
theorem ok_earliest {f : Addr} {fd : FuncData} (F : Fun K "earliest" "earliest" s_earliest f fd) (T : Blt mg) : FnOk P w K mg base CX0 1 f fd ["row", "other"] (spF K p_earliest g_earliest) := by
  refine fn_ok (k := 0) F sc_earliest (by rintro ds ⟨i, j, rfl, _⟩; rfl) fun cdv A outer s H E hr ds hp => ?_
  obtain ⟨ns, ms, rfl, hz, hz2⟩ := hp
  refine jss_cons (js_setOI 2 joi_nil ?_ sc_earliest.nd)
  refine jss_cons (js_for (fun rest ρ => ∃ (i : Nat) (rs f : List Int) (x y : Option Lf.E), i + rs.length ≤ ns.length ∧ f.length ≤ ms.length ∧ f.length ≤ i ∧ f ++ eF i rs (ms.drop f.length) = eF 0 ns ms ∧ rest = enumF i rs ∧ ρ = [some (.v .imm (.il ns)), some (.v .imm (.il ms)), some (Lf.E.ownI f), x, y]) (ji_enum T.enumerate (je_v 0 rfl)) ⟨0, ns, [], none, none, by omega, Nat.zero_le _, Nat.zero_le _, rfl, enumI_eq ns, rfl⟩ (fun d rest ρ' hv => ?_) (fun ρ' hv => ?_))
  · obtain ⟨i, rs, f, x, y, hi, hf, hfi, he, hrest, rfl⟩ := hv
    cases rs with
    | nil => cases hrest
    | cons r rs =>
      obtain ⟨rfl, rfl⟩ := List.cons.inj hrest
      rw [List.length_cons] at hi
      refine ⟨_, jg_pair 3 4 sc_earliest.nd, ?_⟩
      refine jss_one (js_if (JW.pt (jw_and (jt_c (jc_lt (je_len T.len (je_oI 2 rfl)) (je_len T.len (je_v 1 rfl)))) (fun c => (jw_and1 (jt_c (jc_eq (je_ixI (je_v 1 rfl) (je_len T.len (je_oI 2 rfl)) (inR_at rfl (by have := of_decide_eq_true c; omega))) (je_v 4 rfl))))))) (fun c => ?_) (fun c => ?_))
      · rw [Bool.and_eq_true, decide_eq_true_eq, decide_eq_true_eq] at c
        have hlt : f.length < ms.length := by omega
        refine jss_one (js_appI 2 rfl (je_v 3 rfl) ?_ (by omega))
        refine ⟨i + 1, rs, f ++ [(i : Int)], some (.v .frs (.int i)), some (.v .frs (.int r)), by omega, by simp; omega, by simp; omega, ?_, rfl, rfl⟩
        rw [← he]
        have ed : ms.drop f.length = ms[f.length] :: ms.drop (f.length + 1) := List.drop_eq_getElem_cons hlt
        have eg : ms[f.length] = r := by
          have := c.2
          rw [gI_at rfl, List.getD_eq_getElem?_getD, List.getElem?_eq_getElem hlt] at this
          exact this
        rw [ed, eg, List.append_assoc, List.length_append, List.length_singleton]
        congr 1
        show [(i : Int)] ++ eF ((i + 1 : Nat) : Int) rs (ms.drop (f.length + 1)) = if r = r then (i : Int) :: eF ((i : Int) + 1) rs (ms.drop (f.length + 1)) else _
        rw [if_pos rfl]
        rfl
      · refine jss_nil ⟨i + 1, rs, f, some (.v .frs (.int i)), some (.v .frs (.int r)), by omega, hf, by omega, ?_, rfl, rfl⟩
        rw [← he]
        congr 1
        by_cases hlt : f.length < ms.length
        · have ed : ms.drop f.length = ms[f.length] :: ms.drop (f.length + 1) := List.drop_eq_getElem_cons hlt
          have eg : ¬ ms[f.length] = r := fun z => by
            rw [decide_eq_true (show (f.length : Int) < ms.length by omega), Bool.true_and, decide_eq_false_iff_not] at c
            rw [gI_at rfl, List.getD_eq_getElem?_getD, List.getElem?_eq_getElem hlt] at c
            exact c z
          rw [ed]
          show eF ((i + 1 : Nat) : Int) rs _ = if ms[f.length] = r then _ else eF ((i : Int) + 1) rs _
          rw [if_neg eg]
          rfl
        · rw [List.drop_eq_nil_of_le (by omega), eF_nil, eF_nil]
  · obtain ⟨i, rs, f, x, y, hi, hf, hfi, he, hrest, rfl⟩ := hv
    cases rs with
    | cons r rs => cases hrest
    | nil =>
      refine jss_one (js_retO 2 rfl ?_)
      have : f = eF 0 ns ms := by
        rw [← he]
        show f = f ++ []
        rw [List.append_nil]
      exact congrArg D.il this
theorem sc_are_rising : FnScope ["places", "many", "last", "place"] ["places", "many"] (defScope s_are_rising) := ⟨rfl, rfl, rfl, by decide +kernel, rfl, by decide +kernel, by decide +kernel⟩
def p_are_rising (ds : List D) : Prop := ∃ (ps : List Int) (m : Int), ds = [.il ps, .int m]
def g_are_rising (ds : List D) : D := match ds with | [.il ps, .int m] => .bl (risF (-1) m ps) | _ => .non
theorem ok_are_rising {f : Addr} {fd : FuncData} (F : Fun K "are_rising" "are_rising" s_are_rising f fd) (T : Blt mg) : FnOk P w K mg base CX0 1 f fd ["places", "many"] (spF K p_are_rising g_are_rising) := by
  refine fn_ok (k := 0) F sc_are_rising (by rintro ds ⟨i, j, rfl⟩; rfl) fun cdv A outer s H E hr ds hp => ?_
  obtain ⟨ps, m, rfl⟩ := hp
  refine jss_cons (js_set 2 (je_neg je_int) ?_ (by decide) sc_are_rising.nd)
  refine jss_cons (js_forI (fun rest ρ => ∃ (l : Int) (x : Option Lf.E), risF l m rest = risF (-1) m ps ∧ ρ = [some (.v .imm (.il ps)), some (.v .imm (.int m)), some (Lf.E.v .frs (.int l)), x]) (ji_list (je_v 0 rfl)) ⟨_, none, rfl, rfl⟩ (fun d rest ρ' hv => ?_) (fun ρ' hv => ?_))
  · obtain ⟨l, x, he, rfl⟩ := hv
    refine ⟨_, jg_name 3 sc_are_rising.nd, ?_⟩
    refine jss_cons (js_if (jt_not (jt_ltlt (je_v 2 rfl) (je_v 3 rfl) (je_v 1 rfl))) (fun c => ?_) (fun c => ?_))
    · refine jss_one (js_ret je_bl ?_)
      show D.bl false = .bl (risF (-1) m ps)
      rw [← he, risF]
      have : decide (l < d ∧ d < m) = false := decide_eq_false fun z => by
        have c' : d ≤ l ∨ m ≤ d := by simpa using c
        omega
      rw [this]
      rfl
    refine jss_nil ?_
    refine jss_one (js_set 2 (je_v 3 rfl) ?_ (by decide) sc_are_rising.nd)
    refine ⟨d, some (.v .frs (.int d)), ?_, rfl⟩
    rw [← he, risF]
    have : decide (l < d ∧ d < m) = true := by simpa using c
    rw [this]
    rfl
  · obtain ⟨l, x, he, rfl⟩ := hv
    refine jss_one (js_ret je_bl ?_)
    show D.bl true = .bl (risF (-1) m ps)
    rw [← he]
    rfl
theorem sc_stands : FnScope ["row", "places", "other", "place"] ["row", "places", "other"] (defScope s_stands) := ⟨rfl, rfl, rfl, by decide +kernel, rfl, by decide +kernel, by decide +kernel⟩
def p_stands (ds : List D) : Prop := ∃ ns ps ms : List Int, ds = [.il ns, .il ps, .il ms] ∧ ns.length ≤ 1000
def g_stands (ds : List D) : D := match ds with | [.il ns, .il ps, .il ms] => .bl (stdF ns ps ms) | _ => .non
theorem ok_stands {f : Addr} {fd : FuncData} (F : Fun K "stands" "stands" s_stands f fd) (T : Blt mg) (C_are_rising : Callee P w K mg base 1 "are_rising" p_are_rising g_are_rising) : FnOk P w K mg base CX0 2 f fd ["row", "places", "other"] (spF K p_stands g_stands) := by
  refine fn_ok (k := 1) F sc_stands (by rintro ds ⟨i, j, k, rfl, _⟩; rfl) fun cdv A outer s H E hr ds hp => ?_
  obtain ⟨ns, ps, ms, rfl, hz⟩ := hp
  have hu : (A.deeper (PyProof.Rows.envOfC "stands" (defScope s_stands) s.heap.objs.size f cdv)).units + 64 < cLine := hr.units
  refine jss_cons (js_if (JW.pt (jw_or (jt_not (jt_v (v := risF (-1) ns.length ps) (je_call C_are_rising hr (ja_cons (je_v 1 rfl) (ja_cons (je_len T.len (je_v 0 rfl)) ja_nil)) ⟨_, _, rfl⟩))) (fun _ => (jw_or1 (jt_c (jc_ne (je_len T.len (je_v 1 rfl)) (je_len T.len (je_v 2 rfl)))))))) (fun c => ?_) (fun c => ?_))
  · refine jss_one (js_ret je_bl ?_)
    show D.bl false = .bl (stdF ns ps ms)
    unfold stdF
    by_cases h : risF (-1) ns.length ps = true
    · rw [h, Bool.not_true, Bool.false_or] at c
      have c' : ¬ ps.length = ms.length := by
        have c' : ¬ (ps.length : Int) = ms.length := by simpa using c
        omega
      rw [decide_eq_false c', Bool.false_and, Bool.and_false]
    · rw [Bool.eq_false_iff.mpr h, Bool.false_and]
  refine jss_nil ?_
  rw [Bool.or_eq_false_iff] at c
  obtain ⟨c1, c2⟩ := c
  have h1 : risF (-1) ns.length ps = true := by simpa using c1
  have h2 : ps.length = ms.length := by
    have c' : (ps.length : Int) = ms.length := by simpa using c2
    omega
  have hm := risF_mem _ ps (-1) (by omega) h1
  have hl : ps.length ≤ 1000 := by
    cases ns with
    | nil =>
      cases ps with
      | nil => simp
      | cons p r => have := hm p (List.mem_cons_self ..); simp at this; omega
    | cons n r =>
      have := risF_len _ ps (-1) (by omega) (by rw [List.length_cons]; omega) h1
      omega
  refine jss_one (js_ret (je_c (jc_eqL hu (JOI.je (joi_mapI (x := "place") (n := 3) (f := gI ns) (ji_list (je_v 1 rfl)) (fun _ _ _ _ _ _ => jgb_name 3 sc_stands.nd) (fun k hk _ _ _ _ _ => (je_ixI (je_v 0 rfl) (je_v 3 rfl) ⟨by have := hm k hk; omega, (hm k hk).2⟩)) sc_stands.nd (blkOk_by (N := ["row", "places", "other", "place"]) (sc := defScope s_stands) (by decide +kernel)) (by omega))) (je_v 2 rfl))) ?_)
  show D.bl _ = .bl (stdF ns ps ms)
  unfold stdF
  rw [h1, decide_eq_true h2]
  rfl
theorem sc_law_is_left : FnScope ["_law_row", "_law_other", "_law_rest", "_law_sign"] ["_law_row", "_law_other"] (defScope s_law_is_left) := ⟨rfl, rfl, rfl, by decide +kernel, rfl, by decide +kernel, by decide +kernel⟩
def p_law_is_left (ds : List D) : Prop := ∃ ns ms : List Int, ds = [.il ns, .il ms]
def g_law_is_left (ds : List D) : D := match ds with | [.il ns, .il ms] => .bl (isLeft ns ms) | _ => .non
theorem ok_law_is_left {f : Addr} {fd : FuncData} (F : Fun K "_law_is_left" "_law_is_left" s_law_is_left f fd) (T : Blt mg) : FnOk P w K mg base CX0 1 f fd ["_law_row", "_law_other"] (spF K p_law_is_left g_law_is_left) := by
  refine fn_ok (k := 0) F sc_law_is_left (by rintro ds ⟨i, j, rfl⟩; rfl) fun cdv A outer s H E hr ds hp => ?_
  obtain ⟨ns, ms, rfl⟩ := hp
  have hu : (A.deeper (PyProof.Rows.envOfC "_law_is_left" (defScope s_law_is_left) s.heap.objs.size f cdv)).units + 64 < cLine := hr.units
  refine jss_cons (js_setOI 2 (joi_list T.list (je_v 1 rfl)) ?_ sc_law_is_left.nd)
  refine jss_cons (js_forI (fun rest ρ => ∃ (o : List Int) (x : Option Lf.E), lF rest o = lF ns.reverse ms.reverse ∧ ρ = [some (.v .imm (.il ns)), some (.v .imm (.il ms)), some (Lf.E.ownI o.reverse), x]) (ji_list (JOI.je (joi_rev (je_v 0 rfl)))) ⟨ms.reverse, none, rfl, by rw [List.reverse_reverse]; rfl⟩ (fun d rest ρ' hv => ?_) (fun ρ' hv => ?_))
  · obtain ⟨o, x, he, rfl⟩ := hv
    refine ⟨_, jg_name 3 sc_law_is_left.nd, ?_⟩
    refine jss_one (js_if (JW.pt (jw_and (jt_c (jc_neL hu (je_oI 2 rfl) (JOI.je joi_nil))) (fun c => (jw_and1 (jt_c (jc_eq (je_ixI (je_oI 2 rfl) (je_neg je_int) (by
        have h1 : o.reverse ≠ [] := by simpa using c
        have h2 := List.length_pos_iff.mpr h1
        exact ⟨by omega, by omega⟩)) (je_v 3 rfl))))))) (fun c => ?_) (fun c => ?_))
    · cases o with
      | nil => simp at c
      | cons o0 o =>
        rw [List.reverse_cons, gI_last] at c
        have c' : o0 = d := by simpa using c
        refine jss_one (js_popI 2 rfl ?_ (by simp))
        refine ⟨o, some (.v .frs (.int d)), ?_, ?_⟩
        · rw [← he]
          show lF rest o = if o0 = d then lF rest o else _
          rw [if_pos c']
        · rw [List.reverse_cons, List.dropLast_concat]
          rfl
    · refine jss_nil ⟨o, some (.v .frs (.int d)), ?_, rfl⟩
      rw [← he]
      cases o with
      | nil => rw [lF_nil, lF_nil]
      | cons o0 o =>
        rw [List.reverse_cons, gI_last] at c
        have c' : ¬ o0 = d := by simpa using c
        show lF rest (o0 :: o) = if o0 = d then _ else lF rest (o0 :: o)
        rw [if_neg c']
  · obtain ⟨o, x, he, rfl⟩ := hv
    refine jss_one (js_ret (je_c (jc_eqL hu (je_oI 2 rfl) (JOI.je joi_nil))) ?_)
    show D.bl (decide (o.reverse = [])) = .bl (isLeft ns ms)
    unfold isLeft
    rw [← he]
    congr 1
    apply decide_eq_decide.mpr
    show o.reverse = [] ↔ o = []
    simp
end
end Kc

set_option Elab.async false
set_option linter.all false
set_option maxRecDepth 100000
set_option maxHeartbeats 2000000
set_option autoImplicit false
namespace Kc
open PySem L2 Lf M1 M2
section
variable {P : Program} {w : World} {K : PySem.W.Frag} {mg : Str → Option Value} {base : Heap}
/-- a class with an __init__ and a way to show; its one field -/
structure Kl (K : PySem.W.Frag) (C : Addr) (fs : List Str) : Prop where
  i : ClsI K C
  no : ∀ f, f ∈ fs → NoAttr K C f
def dLeft (C : Addr) (ps : List Int) : D := .obj C [("places", .il ps)]

end
end Kc

set_option Elab.async false
set_option linter.all false
set_option maxRecDepth 100000
set_option maxHeartbeats 2000000
set_option autoImplicit false
namespace Kc
open PySem L2 Lf M1 M2
section
variable {P : Program} {w : World} {K : PySem.W.Frag} {mg : Str → Option Value} {base : Heap}
open M4
def kI (x : Int) : Int × D := (x, .bl true)
theorem look_kI {met : List Int} {s : Int} : (lookP (met.map kI) s).isSome = decide (s ∈ met) := by
  unfold lookP
  rw [Option.isSome_map, List.find?_map, Option.isSome_map, Bool.eq_iff_iff, List.find?_isSome, decide_eq_true_eq]
  constructor
  · rintro ⟨q, h1, h2⟩
    exact (show q = s from of_decide_eq_true h2) ▸ h1
  · intro h
    exact ⟨s, h, decide_eq_true rfl⟩
theorem put_kI {met : List Int} {s : Int} : putP (met.map kI) s (.bl true) = (insK met s).map kI := by
  unfold putP insK
  have e : ((met.map kI).any fun kv => decide (kv.1 = s)) = true ↔ s ∈ met := by
    rw [List.any_map, List.any_eq_true]
    constructor
    · rintro ⟨q, h1, h2⟩
      exact (show q = s from of_decide_eq_true h2) ▸ h1
    · intro h
      exact ⟨s, h, decide_eq_true rfl⟩
  by_cases h : s ∈ met
  · rw [if_pos (e.mpr h), if_pos h, List.map_map]
    apply List.map_congr_left
    intro q _
    show (if q = s then (q, D.bl true) else (q, .bl true)) = kI q
    split <;> rfl
  · rw [if_neg (fun z => h (e.mp z)), if_neg h, List.map_append]
    rfl
def dMis (C : Addr) (cuts word : List Int) : D := .obj C [("cuts", .il cuts), ("word", .il word)]
theorem sc_check_kinds : FnScope ["kinds"] ["kinds"] (defScope s_check_kinds) := ⟨rfl, rfl, rfl, by decide +kernel, rfl, by decide +kernel, by decide +kernel⟩
def p_check_kinds (ds : List D) : Prop := ∃ k : Int, ds = [.int k] ∧ 1 ≤ k
def g_check_kinds (_ : List D) : D := .non
theorem ok_check_kinds {f : Addr} {fd : FuncData} (F : Fun K "check_kinds" "check_kinds" s_check_kinds f fd) (T : Blt mg) (C_is_number : Callee P w K mg base 1 "is_number" p_is_number g_is_number) : FnOk P w K mg base CX0 2 f fd ["kinds"] (spF K p_check_kinds g_check_kinds) := by
  refine fn_ok (k := 1) F sc_check_kinds (by rintro ds ⟨i, rfl, _⟩; rfl) fun cdv A outer s H E hr ds hp => ?_
  obtain ⟨k, rfl, hk⟩ := hp
  refine jss_one (js_if (JW.pt (jw_or (jt_not (jt_v (v := true) (je_call C_is_number hr (ja_cons (je_v 0 rfl) ja_nil) ⟨_, rfl⟩))) (fun _ => (jw_or1 (jt_c (jc_lt (je_v 0 rfl) je_int)))))) (fun c => ?_) (fun c => ?_))
  · rw [decide_eq_false (show ¬ k < 1 by omega)] at c
    cases c
  · exact jss_nil rfl
theorem sc_Missing_init : FnScope ["self", "cuts", "word"] ["self", "cuts", "word"] (defScope s_Missing_init) := ⟨rfl, rfl, rfl, by decide +kernel, rfl, by decide +kernel, by decide +kernel⟩
def p_Missing_init (ds : List D) : Prop := ∃ (a b : List Int), ds = [.il a, .il b]
def g_Missing_init (C : Addr) (ds : List D) : D := match ds with | [.il a, .il b] => dMis C a b | _ => .non
theorem ok_Missing_init {f : Addr} {fd : FuncData} {C : Addr} (F : Fun K "__init__" "Missing.__init__" s_Missing_init f fd) (T : Blt mg) (L : Kl K C ["cuts", "word"]) : FnOk P w K mg base CX0 1 f fd ["self", "cuts", "word"] (spIU K C p_Missing_init (g_Missing_init C)) := by
  refine fn_okI (k := 0) F sc_Missing_init (by rintro ds ⟨i, j, rfl⟩; rfl) fun cdv A outer s H E hr b ds hp => ?_
  obtain ⟨l0, l1, rfl⟩ := hp
  refine jss_cons (js_fldU 0 rfl (JOI.ju (joi_list T.list (je_v 1 rfl))) (fun g0 eg0 og0 => ?_) L.i.cl (L.no _ (by simp)))
  refine jss_one (js_fldU 0 rfl (JOI.ju (joi_list T.list (je_v 2 rfl))) (fun g1 eg1 og1 => ?_) L.i.cl (L.no _ (by simp)))
  refine ⟨_, _, rfl, ?_, ?_⟩
  · show D.obj C [("cuts", erase g0), ("word", erase g1)] = dMis C l0 l1
    rw [eg0, eg1]
    rfl
  · show (true && (okG g0 && (okG g1 && true))) = true
    rw [og0, og1]
    rfl
theorem sc_Missing_shows : FnScope ["self", "row", "kinds", "begin", "cut", "sign"] ["self", "row", "kinds"] (defScope s_Missing_shows) := ⟨rfl, rfl, rfl, by decide +kernel, rfl, by decide +kernel, by decide +kernel⟩
def p_Missing_shows (C : Addr) (ds : List D) : Prop := ∃ (cuts word row : List Int) (k : Int), ds = [dMis C cuts word, .il row, .int k] ∧ row.length ≤ 1000 ∧ 0 ≤ k ∧ word.length ≤ 1000
def g_Missing_shows (ds : List D) : D := match ds with | [.obj _ [(_, .il cuts), (_, .il word)], .il row, .int k] => .bl (misF row k cuts word) | _ => .non
theorem all_inr (k : Int) (xs : List Int) : (xs.map fun x => (decide (0 ≤ x) && decide (x < k))).all id = xs.all (inr k) := by
  rw [List.all_map]
  rfl
theorem ok_Missing_shows {f : Addr} {fd : FuncData} {C : Addr} (F : Fun K "shows" "Missing.shows" s_Missing_shows f fd) (T : Blt mg) (L : Kl K C ["cuts", "word"]) (C_earliest : Callee P w K mg base 1 "earliest" p_earliest g_earliest) : FnOk P w K mg base CX0 2 f fd ["self", "row", "kinds"] (spF K (p_Missing_shows C) g_Missing_shows) := by
  refine fn_ok (k := 1) F sc_Missing_shows (by rintro ds ⟨i, j, k, l, rfl, _⟩; rfl) fun cdv A outer s H E hr ds hp => ?_
  obtain ⟨cuts, word, row, k, rfl, hz, hk, hzw⟩ := hp
  have n0 := L.no "cuts" (by simp)
  have n1 := L.no "word" (by simp)
  refine jss_cons (js_set 3 je_int ?_ (by decide) sc_Missing_shows.nd)
  refine jss_cons (js_forI (fun rest ρ => ∃ (b : Int) (x4 : Option Lf.E), 0 ≤ b ∧ cutsF row k 0 cuts = cutsF row k b rest ∧ ρ = [some (.v .imm (dMis C cuts word)), some (.v .imm (.il row)), some (.v .imm (.int k)), some (.v .frs (.int b)), x4, none]) (ji_list (je_fld (d := .il cuts) (je_v 0 rfl) L.i.cl n0 rfl)) ⟨0, none, Int.le_refl _, rfl, rfl⟩ (fun c rest ρ' hv => ?_) (fun ρ' hv => ?_))
  · obtain ⟨b, x4, hb, he, rfl⟩ := hv
    refine ⟨_, jg_name 4 sc_Missing_shows.nd, ?_⟩
    have hsl := cutL_length row (some b) (some c)
    refine jss_cons (js_if (jt_not (jt_ltle (je_v 3 rfl) (je_v 4 rfl) (je_len T.len (je_v 1 rfl)))) (fun h => ?_) (fun h => ?_))
    · refine jss_one (js_ret je_bl ?_)
      show D.bl false = .bl (misF row k cuts word)
      have h' : (decide (b < c) && decide (c ≤ (row.length : Int))) = false := by cases z : (decide (b < c) && decide (c ≤ (row.length : Int))) with | false => rfl | true => rw [z] at h; cases h
      unfold misF
      rw [he, cutsF, h']
      rfl
    refine jss_nil ?_
    have h' : (decide (b < c) && decide (c ≤ (row.length : Int))) = true := by cases z : (decide (b < c) && decide (c ≤ (row.length : Int))) with | true => rfl | false => rw [z] at h; cases h
    refine jss_cons (js_if (jt_c (jc_lt (je_lenSet T.len T.set (JOI.je (joi_lcI (x := "sign") (n := 5) (Tst := inr k) (f := fun x => x) (ji_list (JOI.je (joi_cut (je_v 1 rfl) (jp_some (je_v 3 rfl)) (jp_some (je_v 4 rfl))))) (fun _ _ _ _ _ _ => jgb_name 5 sc_Missing_shows.nd) (fun k hk _ _ _ _ _ => (jts_one (jt_lelt je_int (je_v 5 rfl) (je_v 2 rfl)))) (fun k hk ht _ _ _ _ _ => (je_v 5 rfl)) sc_Missing_shows.nd (blkOk_by (N := ["self", "row", "kinds", "begin", "cut", "sign"]) (sc := defScope s_Missing_shows) (by decide +kernel)) (by omega))) (by rw [List.length_map]; exact Nat.le_trans (List.length_filter_le _ _) (by omega))) (je_v 2 rfl))) (fun q => ?_) (fun q => ?_))
    · rw [List.map_id'] at q
      have q' : (cnt k (cutL row (some b) (some c)) : Int) < k := of_decide_eq_true q
      refine jss_one (js_ret je_bl ?_)
      show D.bl false = .bl (misF row k cuts word)
      unfold misF
      rw [he, cutsF, decide_eq_false (show ¬ (cnt k (cutL row (some b) (some c)) : Int) = k by omega), Bool.false_and, Bool.and_false, Bool.false_and]
    refine jss_nil ?_
    rw [List.map_id'] at q
    have q' : ¬ (cnt k (cutL row (some b) (some c)) : Int) < k := of_decide_eq_false q
    have q2 := cnt_le hk (cutL row (some b) (some c))
    refine jss_one (js_set 3 (JE.sc (l' := .frs) (je_v 4 rfl) rfl) ?_ (by decide) sc_Missing_shows.nd)
    have hbc : b < c := by
      rw [Bool.and_eq_true, decide_eq_true_eq] at h'
      exact h'.1
    refine ⟨c, _, by omega, ?_, rfl⟩
    rw [he, cutsF, h', decide_eq_true (show (cnt k (cutL row (some b) (some c)) : Int) = k by omega)]
    rfl
  obtain ⟨b, x4, hb, he, rfl⟩ := hv
  have hc : cutsF row k 0 cuts = true := he
  refine jss_cons (js_if (JW.pt (jw_or (jt_c (jc_ne (je_len T.len (je_fld (d := .il word) (je_v 0 rfl) L.i.cl n1 rfl)) (je_add (je_len T.len (je_fld (d := .il cuts) (je_v 0 rfl) L.i.cl n0 rfl)) je_int))) (fun _ => (jw_or1 (jt_not (jt_v (v := word.all (inr k)) (JE.eq (je_all (bs := word.map fun x => (decide (0 ≤ x) && decide (x < k))) T.all (JO.je (jo_mapB (x := "sign") (n := 5) (f := fun x => (decide (0 ≤ x) && decide (x < k))) (ji_list (je_fld (d := .il word) (je_v 0 rfl) L.i.cl n1 rfl)) (fun _ _ _ _ _ _ => jgb_name 5 sc_Missing_shows.nd) (fun k hk _ _ _ _ _ => (je_lelt je_int (je_v 5 rfl) (je_v 2 rfl))) sc_Missing_shows.nd (blkOk_by (N := ["self", "row", "kinds", "begin", "cut", "sign"]) (sc := defScope s_Missing_shows) (by decide +kernel)) (by omega)))) (congrArg D.bl (all_inr k word)))))))) ) (fun h => ?_) (fun h => ?_))
  · refine jss_one (js_ret je_bl ?_)
    show D.bl false = .bl (misF row k cuts word)
    congr 1
    symm
    unfold misF
    cases h1 : decide ((word.length : Int) = (cuts.length : Int) + 1)
    · rw [Bool.false_and, Bool.and_false]
    · rw [h1] at h
      have h2 : word.all (inr k) = false := by simpa using h
      rw [h2, Bool.false_and, Bool.and_false, Bool.and_false]
  refine jss_nil ?_
  rw [Bool.or_eq_false_iff] at h
  have h1 : decide ((word.length : Int) = (cuts.length : Int) + 1) = true := by simpa using h.1
  have h2 : word.all (inr k) = true := by simpa using h.2
  refine jss_one (js_ret (je_c (jc_lt (je_len T.len (je_call (d := .il (eF 0 row word)) C_earliest hr (ja_cons (je_v 1 rfl) (ja_cons (je_fld (d := .il word) (je_v 0 rfl) L.i.cl n1 rfl) ja_nil)) ⟨_, _, rfl, hz, hzw⟩)) (je_len T.len (je_fld (d := .il word) (je_v 0 rfl) L.i.cl n1 rfl)))) ?_)
  show D.bl _ = .bl (misF row k cuts word)
  unfold misF
  rw [hc, h1, h2, not_left_iff]
  rfl
theorem sc_missing : FnScope ["row", "kinds", "cuts", "word", "met", "sign", "place"] ["row", "kinds"] (defScope s_missing) := ⟨rfl, rfl, rfl, by decide +kernel, rfl, by decide +kernel, by decide +kernel⟩
def p_missing (ds : List D) : Prop := ∃ (row : List Int) (k : Int), ds = [.il row, .int k] ∧ row.length ≤ 1000 ∧ 1 ≤ k
structure MsR (C : Addr) (row : List Int) (k : Int) (d : D) : Prop where
  ex : ∃ cuts word : List Int, d = dMis C cuts word ∧ misF row k cuts word = true
def r_missing (C : Addr) (ds : List D) (d : D) : Prop := ∃ (row : List Int) (k : Int), ds = [.il row, .int k] ∧ MsR C row k d
theorem r_missing_iff {C : Addr} {row : List Int} {k : Int} {d : D} (h : r_missing C [.il row, .int k] d) : MsR C row k d := by
  obtain ⟨r, o, e, h⟩ := h
  injection e with e1 e2
  injection e2 with e2 e3
  injection e1 with e1
  injection e2 with e2
  subst e1 e2
  exact h
def muSg (B : Nat) (ρ : PEnv) : Nat := match List.getD ρ 5 none with | some (Lf.E.v _ (D.int i)) => B - i.toNat | _ => 0
theorem ok_missing {f : Addr} {fd : FuncData} {C : Addr} (F : Fun K "missing" "missing" s_missing f fd) (T : Blt mg) (C_check_row : Callee P w K mg base 2 "check_row" p_check_row g_check_row) (C_check_kinds : Callee P w K mg base 2 "check_kinds" p_check_kinds g_check_kinds)
    (M_Missing : MakerU P w K mg base 1 "Missing" C p_Missing_init (g_Missing_init C)) : FnOk P w K mg base CX0 3 f fd ["row", "kinds"] (spUR K p_missing (r_missing C)) := by
  refine fn_okUR (k := 2) F sc_missing (by rintro ds ⟨i, j, rfl, _⟩; rfl) fun cdv A outer s H E hr ds hp => ?_
  obtain ⟨row, k, rfl, hz, hk⟩ := hp
  have hu1 : (A.deeper (PyProof.Rows.envOfC "missing" (defScope s_missing) s.heap.objs.size f cdv)).units + 1 < cLine := by have := hr.un; omega
  refine jss_cons (js_expr (je_call (d := .non) C_check_row hr (ja_cons (je_v 0 rfl) ja_nil) ⟨_, rfl, hz⟩) ?_)
  refine jss_cons (js_expr (je_call (d := .non) C_check_kinds hr (ja_cons (je_v 1 rfl) ja_nil) ⟨_, rfl, hk⟩) ?_)
  refine jss_cons (js_setOI 2 joi_nil ?_ sc_missing.nd)
  refine jss_cons (js_setOI 3 joi_nil ?_ sc_missing.nd)
  refine jss_cons (js_setDI 4 (l := .frs) ?_ (by decide) sc_missing.nd)
  refine jss_cons (js_for (fun rest ρ => ∃ (n : Nat) (rs cuts word met : List Int) (x5 x6 : Option Lf.E), row.drop n = rs ∧ rest = enumF n rs ∧ Mst row k n cuts word met ∧
      ρ = [some (.v .imm (.il row)), some (.v .imm (.int k)), some (.ownI cuts), some (.ownI word), some (.dI .frs (met.map kI)), x5, x6]) (ji_enum T.enumerate (je_v 0 rfl)) ⟨0, row, [], [], [], none, none, rfl, enumI_eq row, Mst.start hk, rfl⟩ (fun d rest ρ' hv => ?_) (fun ρ' hv => ?_))
  · obtain ⟨n, rs, cuts, word, met, x5, x6, hrs, hrest, hm, rfl⟩ := hv
    cases rs with
    | nil => cases hrest
    | cons r rs =>
      obtain ⟨rfl, rfl⟩ := List.cons.inj hrest
      have hget : row[n]? = some r := by
        have := congrArg (fun l : List Int => l[0]?) hrs
        simpa using this
      have hdrop : row.drop (n + 1) = rs := by
        have := congrArg (fun l : List Int => l.drop 1) hrs
        rw [List.drop_drop] at this
        simpa using this
      have hml := hm.ml
      have hcl := hm.cl
      have hwl := hm.wl
      have hln := hm.ln
      have hmn : met.length ≤ row.length := sub_len hm.nd fun x hx => List.mem_of_mem_take (List.mem_of_mem_drop ((hm.mm x).mp hx).1)
      refine ⟨_, jg_pair 6 5 sc_missing.nd, ?_⟩
      refine jss_one (js_if (jt_lelt je_int (je_v 5 rfl) (je_v 1 rfl)) (fun c => ?_) (fun c => ?_))
      · have hin : inr k r = true := c
        refine jss_cons (js_putI 4 hu1 rfl je_bl (je_v 5 rfl) ?_ (by rw [List.length_map]; omega))
        rw [put_kI]
        refine jss_one (js_if (jt_c (jc_eq (je_lenDI (pl := ⟨0, 0, 0, 0⟩) 4 T.len rfl) (je_v 1 rfl))) (fun q => ?_) (fun q => ?_))
        · rw [List.length_map] at q
          have q' := of_decide_eq_true q
          refine jss_cons (js_appI 2 rfl (je_add (je_v 6 rfl) je_int) ?_ (by omega))
          refine jss_cons (js_appI 3 rfl (je_v 5 rfl) ?_ (by omega))
          refine jss_one (js_setDI 4 (l := .frs) ?_ (by decide) sc_missing.nd)
          exact ⟨n + 1, rs, _, _, [], _, _, hdrop, rfl, hm.full hget hin q', rfl⟩
        · rw [List.length_map] at q
          have q' := of_decide_eq_false q
          exact jss_nil ⟨n + 1, rs, cuts, word, insK met r, _, _, hdrop, rfl, hm.ins hget hin q', rfl⟩
      · have hin : inr k r = false := c
        exact jss_nil ⟨n + 1, rs, cuts, word, met, _, _, hdrop, rfl, hm.out hget hin, rfl⟩
  obtain ⟨n, rs, cuts, word, met, x5, x6, hrs, hrest, hm, rfl⟩ := hv
  have : rs = [] := by cases rs with | nil => rfl | cons _ _ => cases hrest
  subst this
  have hn : n = row.length := by
    have h1 := hm.ln
    have h2 := congrArg List.length hrs
    rw [List.length_drop, List.length_nil] at h2
    omega
  subst hn
  refine jss_cons (js_set 5 je_int ?_ (by decide) sc_missing.nd)
  refine jss_cons (js_while (fun ρ => ∃ t : Nat, (∀ i : Nat, i < t → (i : Int) ∈ met) ∧ ρ = [some (.v .imm (.il row)), some (.v .imm (.int k)), some (.ownI cuts), some (.ownI word), some (.dI .frs (met.map kI)), some (.v .frs (.int t)), x6]) (muSg (met.length + 1)) ⟨0, fun i h => absurd h (Nat.not_lt_zero _), rfl⟩ (fun ρ' hv => ?_))
  obtain ⟨t, ht, rfl⟩ := hv
  refine ⟨_, (jt_c (jc_dinI 4 hu1 (je_v 5 rfl) rfl)), fun c => ?_, fun c => ?_⟩
  · rw [look_kI] at c
    have hin : (t : Int) ∈ met := of_decide_eq_true c
    have ht' : ∀ i : Nat, i < t + 1 → (i : Int) ∈ met := fun i h => by
      rcases Nat.lt_succ_iff_lt_or_eq.mp h with q | rfl
      · exact ht i q
      · exact hin
    have := run_len ht'
    have hmu : muSg (met.length + 1) [some (.v .imm (.il row)), some (.v .imm (.int k)), some (.ownI cuts), some (.ownI word), some (.dI .frs (met.map kI)), some (.v .frs (.int t)), x6] = met.length + 1 - t := by
      show met.length + 1 - ((t : Nat) : Int).toNat = _
      rw [Int.toNat_natCast]
    rw [hmu]
    refine jss_one (js_augA 5 rfl je_int ?_ sc_missing.nd)
    refine ⟨⟨t + 1, ht', rfl⟩, ?_⟩
    show met.length + 1 - (((t : Nat) : Int) + 1).toNat < _
    omega
  · rw [look_kI] at c
    have hin : (t : Int) ∉ met := of_decide_eq_false c
    have hrl := run_len ht
    have hml := hm.ml
    refine jss_keepI 2 rfl ?_
    refine jss_keepI 3 rfl ?_
    have hwl := hm.wl
    have hcl := hm.cl
    refine jss_one (js_retU (ju_make (d := dMis C cuts (word ++ [(t : Int)])) M_Missing hr (ja_cons (je_v 2 rfl) (ja_cons (JOI.je (joi_cat (je_v 3 rfl) (JOI.je (joi_lst (l := .frs) (ns := [(t : Int)]) (ja_cons (je_v 5 rfl) ja_nil))) (by show _ + 1 ≤ _; omega))) ja_nil)) ⟨_, _, rfl⟩) ?_)
    exact ⟨row, k, rfl, ⟨cuts, _, rfl, hm.fin hin (by omega)⟩⟩

end
end Kc

set_option Elab.async false
set_option linter.all false
set_option maxRecDepth 100000
set_option maxHeartbeats 2000000
set_option autoImplicit false
namespace Kc
open PySem L2 Lf M1 M2
section
variable {P : Program} {w : World} {K : PySem.W.Frag} {mg : Str → Option Value} {base : Heap}
theorem sc_Left_init : FnScope ["self", "places"] ["self", "places"] (defScope s_Left_init) := ⟨rfl, rfl, rfl, by decide +kernel, rfl, by decide +kernel, by decide +kernel⟩
def p_Left_init (ds : List D) : Prop := ∃ ps : List Int, ds = [.il ps]
def g_Left_init (C : Addr) (ds : List D) : D := match ds with | [.il ps] => dLeft C ps | _ => .non
theorem ok_Left_init {f : Addr} {fd : FuncData} {C : Addr} (F : Fun K "__init__" "Left.__init__" s_Left_init f fd) (T : Blt mg) (L : Kl K C ["places"]) : FnOk P w K mg base CX0 1 f fd ["self", "places"] (spIU K C p_Left_init (g_Left_init C)) := by
  refine fn_okI (k := 0) F sc_Left_init (by rintro ds ⟨i, rfl⟩; rfl) fun cdv A outer s H E hr b ds hp => ?_
  obtain ⟨ps, rfl⟩ := hp
  refine jss_one (js_fldU 0 rfl (JOI.ju (joi_list T.list (je_v 1 rfl))) (fun g eg og => ?_) L.i.cl (L.no _ (List.mem_cons_self ..)))
  refine ⟨_, _, rfl, ?_, ?_⟩
  · show D.obj C [("places", erase g)] = dLeft C ps
    rw [eg]
    rfl
  · show (true && (okG g && true)) = true
    rw [og]
    rfl
theorem sc_Left_shows : FnScope ["self", "row", "other"] ["self", "row", "other"] (defScope s_Left_shows) := ⟨rfl, rfl, rfl, by decide +kernel, rfl, by decide +kernel, by decide +kernel⟩
def p_Left_shows (C : Addr) (ds : List D) : Prop := ∃ ps ns ms : List Int, ds = [dLeft C ps, .il ns, .il ms] ∧ ns.length ≤ 1000
def g_Left_shows (ds : List D) : D := match ds with | [.obj _ [(_, .il ps)], .il ns, .il ms] => .bl (stdF ns ps ms) | _ => .non
theorem ok_Left_shows {f : Addr} {fd : FuncData} {C : Addr} (F : Fun K "shows" "Left.shows" s_Left_shows f fd) (T : Blt mg) (L : Kl K C ["places"]) (C_stands : Callee P w K mg base 2 "stands" p_stands g_stands) : FnOk P w K mg base CX0 3 f fd ["self", "row", "other"] (spF K (p_Left_shows C) g_Left_shows) := by
  refine fn_ok (k := 2) F sc_Left_shows (by rintro ds ⟨i, j, k, rfl, _⟩; rfl) fun cdv A outer s H E hr ds hp => ?_
  obtain ⟨ps, ns, ms, rfl, hz⟩ := hp
  exact jss_one (js_ret (je_call (d := .bl (stdF ns ps ms)) C_stands hr (ja_cons (je_v 1 rfl) (ja_cons (je_fld (d := .il ps) (je_v 0 rfl) L.i.cl (L.no _ (List.mem_cons_self ..)) rfl) (ja_cons (je_v 2 rfl) ja_nil))) ⟨_, _, _, rfl, hz⟩) rfl)
theorem sc_Short_init : FnScope ["self", "places"] ["self", "places"] (defScope s_Short_init) := ⟨rfl, rfl, rfl, by decide +kernel, rfl, by decide +kernel, by decide +kernel⟩
def p_Short_init (ds : List D) : Prop := ∃ ps : List Int, ds = [.il ps]
def g_Short_init (C : Addr) (ds : List D) : D := match ds with | [.il ps] => dLeft C ps | _ => .non
theorem ok_Short_init {f : Addr} {fd : FuncData} {C : Addr} (F : Fun K "__init__" "Short.__init__" s_Short_init f fd) (T : Blt mg) (L : Kl K C ["places"]) : FnOk P w K mg base CX0 1 f fd ["self", "places"] (spIU K C p_Short_init (g_Short_init C)) := by
  refine fn_okI (k := 0) F sc_Short_init (by rintro ds ⟨i, rfl⟩; rfl) fun cdv A outer s H E hr b ds hp => ?_
  obtain ⟨ps, rfl⟩ := hp
  refine jss_one (js_fldU 0 rfl (JOI.ju (joi_list T.list (je_v 1 rfl))) (fun g eg og => ?_) L.i.cl (L.no _ (List.mem_cons_self ..)))
  refine ⟨_, _, rfl, ?_, ?_⟩
  · show D.obj C [("places", erase g)] = dLeft C ps
    rw [eg]
    rfl
  · show (true && (okG g && true)) = true
    rw [og]
    rfl
theorem sc_Short_shows : FnScope ["self", "row", "other", "many", "begin", "place"] ["self", "row", "other"] (defScope s_Short_shows) := ⟨rfl, rfl, rfl, by decide +kernel, rfl, by decide +kernel, by decide +kernel⟩
def p_Short_shows (C : Addr) (ds : List D) : Prop := ∃ ps ns ms : List Int, ds = [dLeft C ps, .il ns, .il ms] ∧ ns.length ≤ 1000
def g_Short_shows (ds : List D) : D := match ds with | [.obj _ [(_, .il ps)], .il ns, .il ms] => .bl (shF ns ps ms) | _ => .non
theorem ok_Short_shows {f : Addr} {fd : FuncData} {C : Addr} (F : Fun K "shows" "Short.shows" s_Short_shows f fd) (T : Blt mg) (L : Kl K C ["places"]) (C_stands : Callee P w K mg base 2 "stands" p_stands g_stands) : FnOk P w K mg base CX0 3 f fd ["self", "row", "other"] (spF K (p_Short_shows C) g_Short_shows) := by
  refine fn_ok (k := 2) F sc_Short_shows (by rintro ds ⟨i, j, k, rfl, _⟩; rfl) fun cdv A outer s H E hr ds hp => ?_
  obtain ⟨ps, ns, ms, rfl, hz⟩ := hp
  have hu : (A.deeper (PyProof.Rows.envOfC "Short.shows" (defScope s_Short_shows) s.heap.objs.size f cdv)).units + 64 < cLine := hr.units
  have ht : cutL ms none (some (ps.length : Int)) = ms.take ps.length := by rw [cutL_to _ (by omega), Int.toNat_natCast]
  have fp : ∀ {X : Cx} {ρ : PEnv} {e : Expr} {pos : Pos}, X.K = K → JE X .imm e ρ (dLeft C ps) → attributeBase e "places" X.env (eval e X.env) = eval e X.env → JE X .imm (.Attribute e "places" pos) ρ (.il ps) := fun hK h hb => by
    subst hK
    exact je_fld h L.i.cl (L.no _ (List.mem_cons_self ..)) rfl hb
  refine jss_cons (js_set 3 (je_len T.len (fp rfl (je_v 0 rfl) rfl)) ?_ (by decide) sc_Short_shows.nd)
  refine jss_cons (js_if (JW.pt (jw_or (jt_c (jc_ge (je_v 3 rfl) (je_len T.len (je_v 2 rfl)))) (fun _ => (jw_or1 (jt_not (jt_v (v := stdF ns ps (ms.take ps.length)) (je_call C_stands hr (ja_cons (je_v 1 rfl) (ja_cons (fp rfl (je_v 0 rfl) rfl) (ja_cons (JOI.je (joi_cut (je_v 2 rfl) jp_none (jp_some (je_v 3 rfl)))) ja_nil))) ⟨_, _, _, rfl, hz⟩ (by rw [ht]; rfl)))))))) (fun c => ?_) (fun c => ?_))
  · refine jss_one (js_ret je_bl ?_)
    show D.bl false = .bl (shF ns ps ms)
    unfold shF
    by_cases h : ps.length < ms.length
    · have : stdF ns ps (ms.take ps.length) = false := by
        rw [decide_eq_false (show ¬ (ms.length : Int) ≤ ps.length by omega), Bool.false_or] at c
        simpa using c
      rw [this, Bool.false_and, Bool.and_false]
    · rw [decide_eq_false h, Bool.false_and]
  refine jss_nil ?_
  rw [Bool.or_eq_false_iff] at c
  have hl : ps.length < ms.length := by have := of_decide_eq_false c.1; omega
  have hs : stdF ns ps (ms.take ps.length) = true := by simpa using c.2
  have hsh : shF ns ps ms = gapF ns (gI ms ps.length) 0 ps := by
    unfold shF
    rw [decide_eq_true hl, hs, Bool.true_and, Bool.true_and]
  unfold stdF at hs
  rw [Bool.and_eq_true] at hs
  have hm := risF_mem _ ps (-1) (by omega) hs.1
  refine jss_cons (js_set 4 je_int ?_ (by decide) sc_Short_shows.nd)
  refine jss_cons (js_forI (fun rest ρ => ∃ (b : Int) (x : Option Lf.E), (∀ p, p ∈ rest → 0 ≤ p ∧ p < (ns.length : Int)) ∧ gapF ns (gI ms ps.length) b rest = shF ns ps ms ∧ ρ = [some (.v .imm (dLeft C ps)), some (.v .imm (.il ns)), some (.v .imm (.il ms)), some (Lf.E.v .frs (.int ps.length)), some (Lf.E.v .frs (.int b)), x]) (ji_list (fp rfl (je_v 0 rfl) rfl)) ⟨0, none, hm, hsh.symm, rfl⟩ (fun d rest ρ' hv => ?_) (fun ρ' hv => ?_))
  · obtain ⟨b, x, hmr, he, rfl⟩ := hv
    have hd := hmr d (List.mem_cons_self ..)
    refine ⟨_, jg_name 5 sc_Short_shows.nd, ?_⟩
    refine jss_cons (js_if (jt_c (jc_in (je_ixI (je_v 1 rfl) (je_v 5 rfl) ⟨by omega, hd.2⟩) (JOI.je (joi_cut (je_v 1 rfl) (jp_some (je_v 4 rfl)) (jp_some (je_v 5 rfl)))))) (fun c => ?_) (fun c => ?_))
    · refine jss_one (js_ret je_bl ?_)
      show D.bl false = .bl (shF ns ps ms)
      rw [← he, gapF, c]
      rfl
    refine jss_nil ?_
    refine jss_one (js_set 4 (je_add (je_v 5 rfl) je_int) ?_ (by decide) sc_Short_shows.nd)
    refine ⟨d + 1, _, fun p m => hmr p (List.mem_cons_of_mem _ m), ?_, rfl⟩
    rw [← he]
    conv => rhs; rw [gapF, c]
    rfl
  · obtain ⟨b, x, hmr, he, rfl⟩ := hv
    refine jss_one (js_ret (je_c (jc_notin (je_ixI (je_v 2 rfl) (je_v 3 rfl) (inR_at rfl hl)) (JOI.je (joi_cut (je_v 1 rfl) (jp_some (je_v 4 rfl)) jp_none)))) ?_)
    show D.bl _ = .bl (shF ns ps ms)
    rw [← he, gapF]
theorem sc_left : FnScope ["row", "other", "places"] ["row", "other"] (defScope s_left) := ⟨rfl, rfl, rfl, by decide +kernel, rfl, by decide +kernel, by decide +kernel⟩
def p_left (ds : List D) : Prop := ∃ ns ms : List Int, ds = [.il ns, .il ms] ∧ ns.length ≤ 1000 ∧ ms.length ≤ 1000
def dleft (L S : Addr) (ns ms : List Int) : D := if (eF 0 ns ms).length = ms.length then dLeft L (eF 0 ns ms) else dLeft S (eF 0 ns ms)
def g_left (L S : Addr) (ds : List D) : D := match ds with | [.il ns, .il ms] => dleft L S ns ms | _ => .non
theorem ok_left {f : Addr} {fd : FuncData} {L S : Addr} (F : Fun K "left" "left" s_left f fd) (T : Blt mg) (C_check_row : Callee P w K mg base 2 "check_row" p_check_row g_check_row) (C_earliest : Callee P w K mg base 1 "earliest" p_earliest g_earliest)
    (C_Left : MakerU P w K mg base 1 "Left" L p_Left_init (g_Left_init L)) (C_Short : MakerU P w K mg base 1 "Short" S p_Short_init (g_Short_init S)) : FnOk P w K mg base CX0 3 f fd ["row", "other"] (spU K p_left (g_left L S)) := by
  refine fn_okU (k := 2) F sc_left (by rintro ds ⟨i, j, rfl, _⟩; rfl) fun cdv A outer s H E hr ds hp => ?_
  obtain ⟨ns, ms, rfl, hz, hz2⟩ := hp
  refine jss_cons (js_expr (je_call C_check_row hr (ja_cons (je_v 0 rfl) ja_nil) ⟨_, rfl, hz⟩) ?_)
  refine jss_cons (js_expr (je_call C_check_row hr (ja_cons (je_v 1 rfl) ja_nil) ⟨_, rfl, hz2⟩) ?_)
  refine jss_cons (js_set 2 (je_call (d := .il (eF 0 ns ms)) C_earliest hr (ja_cons (je_v 0 rfl) (ja_cons (je_v 1 rfl) ja_nil)) ⟨_, _, rfl, hz, hz2⟩) ?_ (by decide) sc_left.nd)
  refine jss_cons (js_if (jt_c (jc_eq (je_len T.len (je_v 2 rfl)) (je_len T.len (je_v 1 rfl)))) (fun c => ?_) (fun c => ?_))
  · refine jss_one (js_retU (ju_make (d := dLeft L (eF 0 ns ms)) C_Left hr (ja_cons (je_v 2 rfl) ja_nil) ⟨_, rfl⟩) ?_)
    show _ = dleft L S ns ms
    unfold dleft
    rw [if_pos (by have := of_decide_eq_true c; omega)]
  refine jss_nil ?_
  refine jss_one (js_retU (ju_make (d := dLeft S (eF 0 ns ms)) C_Short hr (ja_cons (je_v 2 rfl) ja_nil) ⟨_, rfl⟩) ?_)
  show _ = dleft L S ns ms
  unfold dleft
  rw [if_neg (by have := of_decide_eq_false c; omega)]

end
end Kc

set_option Elab.async false
set_option linter.all false
set_option maxRecDepth 100000
set_option maxHeartbeats 2000000
set_option autoImplicit false
namespace Kc
open PySem L2 Lf M1 M2
section
variable {P : Program} {w : World} {K : PySem.W.Frag} {mg : Str → Option Value} {base : Heap}
/-- the classes' names, and what isinstance says of what is found -/
structure Nm (mg : Str → Option Value) (An Bo Le Lo Mi Mx Sh Un : Addr) : Prop where
  an : mg "Answer" = some (.ref An)
  bo : mg "Both" = some (.ref Bo)
  le : mg "Left" = some (.ref Le)
  lo : mg "Longest" = some (.ref Lo)
  mi : mg "Missing" = some (.ref Mi)
  mx : mg "Mixed" = some (.ref Mx)
  sh : mg "Short" = some (.ref Sh)
  un : mg "Unmixed" = some (.ref Un)
structure Isa (K : PySem.W.Frag) (An Bo Le Lo Mi Mx Sh Un X : Addr) : Prop where
  an : PySem.W.kitOne K (.ref X) (.ref An) = some true
  bo : PySem.W.kitOne K (.ref X) (.ref Bo) = some (decide (X = Bo))
  le : PySem.W.kitOne K (.ref X) (.ref Le) = some (decide (X = Le))
  lo : PySem.W.kitOne K (.ref X) (.ref Lo) = some (decide (X = Lo))
  mi : PySem.W.kitOne K (.ref X) (.ref Mi) = some (decide (X = Mi))
  mx : PySem.W.kitOne K (.ref X) (.ref Mx) = some (decide (X = Mx))
  sh : PySem.W.kitOne K (.ref X) (.ref Sh) = some (decide (X = Sh))
  un : PySem.W.kitOne K (.ref X) (.ref Un) = some (decide (X = Un))
theorem kit_ne {K : PySem.W.Frag} {X Y : Addr} (h1 : PySem.W.kitOne K (.ref X) (.ref X) = some true) (h2 : PySem.W.kitOne K (.ref X) (.ref Y) = some false) : X ≠ Y := fun z => by
  subst z
  rw [h1] at h2
  cases h2
theorem kit_no {K : PySem.W.Frag} {X Y : Addr} (h1 : PySem.W.kitOne K (.ref X) (.ref X) = some true) (h2 : PySem.W.kitOne K (.ref X) (.ref Y) = some false) : PySem.W.kitOne K (.ref X) (.ref Y) = some (decide (X = Y)) := by
  rw [h2, decide_eq_false (kit_ne h1 h2)]
theorem kit_me {K : PySem.W.Frag} {X : Addr} (h1 : PySem.W.kitOne K (.ref X) (.ref X) = some true) : PySem.W.kitOne K (.ref X) (.ref X) = some (decide (X = X)) := by
  rw [h1, decide_eq_true rfl]

end
end Kc

set_option Elab.async false
set_option linter.all false
set_option maxRecDepth 100000
set_option maxHeartbeats 2000000
set_option autoImplicit false
namespace Kc
open PySem L2 Lf M1 M2
section
variable {P : Program} {w : World} {K : PySem.W.Frag} {mg : Str → Option Value} {base : Heap}
open M4
variable {An Bo Le Lo Mi Mx Sh Un : Addr}
abbrev N_missed : List Str := ["_law_row", "_law_kinds", "_law_cuts", "_law_word", "_law_begins", "_law_begin", "_law_end", "_law_sign"]
theorem sc_law_missed : FnScope N_missed ["_law_row", "_law_kinds", "_law_cuts", "_law_word"] (defScope s_law_missed) := ⟨rfl, rfl, rfl, by decide +kernel, rfl, by decide +kernel, by decide +kernel⟩
def p_law_missed (ds : List D) : Prop := ∃ (row : List Int) (k : Int) (cuts word : List Int), ds = [.il row, .int k, .il cuts, .il word] ∧ row.length ≤ 63 ∧ 0 ≤ k ∧ word.length ≤ 1000 ∧ cuts.length ≤ 1000
def g_law_missed (ds : List D) : D := match ds with | [.il row, .int k, .il cuts, .il word] => .bl (misF row k cuts word) | _ => .non
theorem any_out (k : Int) (xs : List Int) : (xs.map fun x => !(decide (0 ≤ x) && decide (x < k))).any id = !xs.all (inr k) := by
  induction xs with
  | nil => rfl
  | cons x r ih =>
    rw [List.map_cons, List.any_cons, ih, List.all_cons]
    show (!inr k x || !r.all (inr k)) = !(inr k x && r.all (inr k))
    rw [Bool.not_and]
theorem ok_law_missed {f : Addr} {fd : FuncData} (F : Fun K "_law_missed" "_law_missed" s_law_missed f fd) (T : Blt mg) (C_law_is_left : Callee P w K mg base 1 "_law_is_left" p_law_is_left g_law_is_left) : FnOk P w K mg base CX0 2 f fd ["_law_row", "_law_kinds", "_law_cuts", "_law_word"] (spF K p_law_missed g_law_missed) := by
  refine fn_ok (k := 1) F sc_law_missed (by rintro ds ⟨i, j, k, l, rfl, _⟩; rfl) fun cdv A outer s H E hr ds hp => ?_
  obtain ⟨row, k, cuts, word, rfl, hz, hk, hzw, hzc⟩ := hp
  refine jss_cons (js_if (JW.pt (jw_or (jt_c (jc_ne (je_len T.len (je_v 3 rfl)) (je_add (je_len T.len (je_v 2 rfl)) je_int))) (fun _ => (jw_or (jt_v (v := !word.all (inr k)) (JE.eq (je_any (bs := word.map fun x => !(decide (0 ≤ x) && decide (x < k))) T.any (JO.je (jo_mapB (x := "_law_sign") (n := 7) (f := fun x => !(decide (0 ≤ x) && decide (x < k))) (ji_list (je_v 3 rfl)) (fun _ _ _ _ _ _ => jgb_name 7 sc_law_missed.nd) (fun k hk _ _ _ _ _ => (je_not (je_lelt je_int (je_v 7 rfl) (je_v 1 rfl)))) sc_law_missed.nd (blkOk_by (N := N_missed) (sc := defScope s_law_missed) (by decide +kernel)) (by omega)))) (congrArg D.bl (any_out k word)))) (fun _ => (jw_or1 (jt_v (v := isLeft row word) (je_call C_law_is_left hr (ja_cons (je_v 0 rfl) (ja_cons (je_v 3 rfl) ja_nil)) ⟨_, _, rfl⟩)))))))) (fun c => ?_) (fun c => ?_))
  · refine jss_one (js_ret je_bl ?_)
    show D.bl false = .bl (misF row k cuts word)
    congr 1
    symm
    unfold misF
    cases h1 : decide ((word.length : Int) = (cuts.length : Int) + 1)
    · rw [Bool.false_and, Bool.and_false]
    · cases h2 : word.all (inr k)
      · rw [Bool.false_and, Bool.and_false, Bool.and_false]
      · rw [h1, h2] at c
        have h3 : isLeft row word = true := c
        rw [h3]
        simp
  refine jss_nil ?_
  rw [Bool.or_eq_false_iff, Bool.or_eq_false_iff] at c
  have h1 : decide ((word.length : Int) = (cuts.length : Int) + 1) = true := by simpa using c.1
  have h2 : word.all (inr k) = true := by simpa using c.2.1
  have h3 : isLeft row word = false := c.2.2
  have hmis : misF row k cuts word = cutsF row k 0 cuts := by
    unfold misF
    rw [h1, h2, h3]
    simp
  refine jss_cons (js_set 4 (JOI.je (joi_cat (JOI.je (joi_lst (l := .frs) (ns := [0]) (ja_cons je_int ja_nil))) (je_v 2 rfl) (by show 1 + _ ≤ _; omega))) ?_ (by decide) sc_law_missed.nd)
  refine jss_cons (js_for (fun rest ρ => ∃ (b : Int) (cs : List Int) (x5 x6 : Option Lf.E), 0 ≤ b ∧ cutsF row k 0 cuts = cutsF row k b cs ∧ rest = zipI (b :: cs) cs ∧ ρ = [some (.v .imm (.il row)), some (.v .imm (.int k)), some (.v .imm (.il cuts)), some (.v .imm (.il word)), some (.v .frs (.il (0 :: cuts))), x5, x6, none]) (ji_zip T.zip (je_v 4 rfl) (je_v 2 rfl)) ⟨0, cuts, none, none, Int.le_refl _, rfl, rfl, rfl⟩ (fun d rest ρ' hv => ?_) (fun ρ' hv => ?_))
  · obtain ⟨b, cs, x5, x6, hb, he, hrest, rfl⟩ := hv
    cases cs with
    | nil => cases hrest
    | cons c cs =>
      obtain ⟨rfl, rfl⟩ := List.cons.inj hrest
      have hsl := cutL_length row (some b) (some c)
      refine ⟨_, jg_pair 5 6 sc_law_missed.nd, ?_⟩
      refine jss_cons (js_if (jt_not (jt_ltle (je_v 5 rfl) (je_v 6 rfl) (je_len T.len (je_v 0 rfl)))) (fun h => ?_) (fun h => ?_))
      · refine jss_one (js_ret je_bl ?_)
        show D.bl false = .bl (misF row k cuts word)
        have h' : (decide (b < c) && decide (c ≤ (row.length : Int))) = false := by cases z : (decide (b < c) && decide (c ≤ (row.length : Int))) with | false => rfl | true => rw [z] at h; cases h
        rw [hmis, he, cutsF, h']
        rfl
      refine jss_nil ?_
      have h' : (decide (b < c) && decide (c ≤ (row.length : Int))) = true := by cases z : (decide (b < c) && decide (c ≤ (row.length : Int))) with | true => rfl | false => rw [z] at h; cases h
      have hbc : b < c := by
        rw [Bool.and_eq_true, decide_eq_true_eq] at h'
        exact h'.1
      refine jss_one (js_if (jt_c (jc_ne (je_len T.len (JOI.je (joi_lcI (ns := sortU (cutL row (some b) (some c))) (x := "_law_sign") (n := 7) (Tst := inr k) (f := fun x => x) (ji_list (JOI.je (joi_sortedSet (ns := cutL row (some b) (some c)) T.sorted T.set (JOI.je (joi_cut (je_v 0 rfl) (jp_some (je_v 5 rfl)) (jp_some (je_v 6 rfl)))) (by omega)))) (fun _ _ _ _ _ _ => jgb_name 7 sc_law_missed.nd) (fun k hk _ _ _ _ _ => (jts_one (jt_lelt je_int (je_v 7 rfl) (je_v 1 rfl)))) (fun k hk ht _ _ _ _ _ => (je_v 7 rfl)) sc_law_missed.nd (blkOk_by (N := N_missed) (sc := defScope s_law_missed) (by decide +kernel)) (by
        have : (sortU (cutL row (some b) (some c))).length ≤ (cutL row (some b) (some c)).length := sub_len (nodup_of_pw (pw_sortU _)) fun x hx => mem_sortU.mp hx
        omega)))) (je_v 1 rfl))) (fun q => ?_) (fun q => ?_))
      · rw [List.map_id', cnt_sorted] at q
        have q' : ¬ (cnt k (cutL row (some b) (some c)) : Int) = k := by simpa using q
        refine jss_one (js_ret je_bl ?_)
        show D.bl false = .bl (misF row k cuts word)
        rw [hmis, he, cutsF, decide_eq_false q', Bool.false_and, Bool.and_false]
      · rw [List.map_id', cnt_sorted] at q
        have q' : (cnt k (cutL row (some b) (some c)) : Int) = k := by simpa using q
        refine jss_nil ⟨c, cs, _, _, by omega, ?_, rfl, rfl⟩
        rw [he, cutsF, h', decide_eq_true q']
        rfl
  obtain ⟨b, cs, x5, x6, hb, he, hrest, rfl⟩ := hv
  have : cs = [] := by cases cs with | nil => rfl | cons _ _ => cases hrest
  subst this
  refine jss_one (js_ret je_bl ?_)
  show D.bl true = .bl (misF row k cuts word)
  rw [hmis, he]
  rfl
abbrev N_right : List Str := ["_law_row", "_law_kinds", "_law_script", "_law_handed", "_law_found", "_law_by", "_law_some", "_law_many", "_law_word", "_law_cell"]
theorem sc_law_right : FnScope N_right ["_law_row", "_law_kinds", "_law_script"] (defScope s_law_right) := ⟨rfl, rfl, rfl, by decide +kernel, rfl, by decide +kernel, by decide +kernel⟩
def p_law_right (ds : List D) : Prop := ∃ (row : List Int) (k : Int) (cs : List Int), ds = [.il row, .int k, .scr cs] ∧ row.length ≤ 63 ∧ 1 ≤ k ∧ cs.length ≤ 63 ∧ k.natAbs < 2 ^ 200
def g_law_right (_ : List D) : D := .bl true
theorem ok_law_right {f : Addr} {fd : FuncData} (F : Fun K "_law_right" "_law_right" s_law_right f fd) (T : Blt mg) (N : Nm mg An Bo Le Lo Mi Mx Sh Un) (L : Kl K Mi ["cuts", "word"]) (LL : Kl K Le ["places"]) (I : Isa K An Bo Le Lo Mi Mx Sh Un Mi) (ILL : PySem.W.kitOne K (.ref Le) (.ref Le) = some true)
    (ne : Mi ≠ Bo ∧ Mi ≠ Le ∧ Mi ≠ Lo ∧ Mi ≠ Mx ∧ Mi ≠ Sh ∧ Mi ≠ Un) (CM : CalleeM P w K mg base 2 Mi "shows" (p_Missing_shows Mi) g_Missing_shows) (C_missing : CalleeUR P w K mg base 3 "missing" p_missing (r_missing Mi)) (C_left : Callee P w K mg base 3 "left" p_left (g_left Le Sh)) (C_law_numbers : Callee P w K mg base 1 "_law_numbers" p_law_numbers g_law_numbers)
    (C_law_missed : Callee P w K mg base 2 "_law_missed" p_law_missed g_law_missed) : FnOk P w K mg base CX0 4 f fd ["_law_row", "_law_kinds", "_law_script"] (spF K p_law_right g_law_right) := by
  refine fn_ok (k := 3) F sc_law_right (by rintro ds ⟨i, j, k, rfl, _⟩; rfl) fun cdv A outer s H E hr ds hp => ?_
  obtain ⟨row, k, cs, rfl, hz, hk, hcs, hkb⟩ := hp
  have hu : (A.deeper (PyProof.Rows.envOfC "_law_right" (defScope s_law_right) s.heap.objs.size f cdv)).units + 64 < cLine := hr.units
  refine jss_cons (js_set 3 (JOI.je (joi_list T.list (je_v 0 rfl))) ?_ (by decide) sc_law_right.nd)
  refine jss_cons (js_setUR 4 (jur_call C_missing hr (ja_cons (je_v 3 rfl) (ja_cons (je_v 1 rfl) ja_nil)) ⟨_, _, rfl, by omega, hk⟩) (fun g hR og => ?_) sc_law_right.nd)
  obtain ⟨cuts, word, hd, hok⟩ := (r_missing_iff hR).ex
  have hc1 : cutsF row k 0 cuts = true := by
    unfold misF at hok
    rw [Bool.and_eq_true] at hok
    exact hok.1
  have hcl := cuts_len cuts 0 (Int.le_refl _) (by omega) hc1
  have hwl : (word.length : Int) = (cuts.length : Int) + 1 := by
    unfold misF at hok
    rw [Bool.and_eq_true, Bool.and_eq_true, decide_eq_true_eq] at hok
    exact hok.2.1
  obtain ⟨a, gs, rfl, eg2, og2⟩ := okG_obj hd og
  obtain ⟨g0, r0, rfl, eg3, og3, eg4, og4⟩ := okGs_cons eg2 og2
  obtain ⟨b0, rfl⟩ := okG_il eg3 og3
  obtain ⟨g1, r1, rfl, eg5, og5, eg6, og6⟩ := okGs_cons eg4 og4
  obtain ⟨b1, rfl⟩ := okG_il eg5 og5
  have := okGs_nil eg6
  subst this
  have cI : clsOk K (dMis Mi cuts word) := L.i
  have n0 := L.no "cuts" (by simp)
  have n1 := L.no "word" (by simp)
  obtain ⟨e1, e2, e3, e4, e5, e6⟩ := ne
  refine jss_cons (js_if (JW.pt (jw_or (jt_not (jt_v (v := true) (je_isC T.isinstance N.an (je_tr 4 rfl (d := dMis Mi cuts word)) I.an cI))) (fun _ => (jw_or (jt_not (jt_v (v := decide (Mi = Mi)) (je_isC T.isinstance N.mi (je_tr 4 rfl (d := dMis Mi cuts word)) I.mi cI))) (fun _ => (jw_or1 (jt_c (jc_neL hu (je_v 3 rfl) (je_v 0 rfl))))))))) (fun c => ?_) (fun c => ?_))
  · rw [decide_eq_true (show Mi = Mi from rfl), decide_eq_true (show row = row from rfl)] at c; cases c
  refine jss_nil ?_
  refine jss_cons (js_if (jt_v (je_any (bs := [decide (Mi = Bo), decide (Mi = Le), decide (Mi = Lo)]) T.any (JO.je (jo_lst (l := .frs) (ja_cons (je_isC T.isinstance N.bo (je_tr 4 rfl (d := dMis Mi cuts word)) I.bo cI) (ja_cons (je_isC T.isinstance N.le (je_tr 4 rfl (d := dMis Mi cuts word)) I.le cI) (ja_cons (je_isC T.isinstance N.lo (je_tr 4 rfl (d := dMis Mi cuts word)) I.lo cI) ja_nil))))))) (fun c => ?_) (fun c => ?_))
  · rw [decide_eq_false e1, decide_eq_false e2, decide_eq_false e3] at c; cases c
  refine jss_nil ?_
  refine jss_cons (js_if (jt_v (je_any (bs := [decide (Mi = Mx), decide (Mi = Sh), decide (Mi = Un)]) T.any (JO.je (jo_lst (l := .frs) (ja_cons (je_isC T.isinstance N.mx (je_tr 4 rfl (d := dMis Mi cuts word)) I.mx cI) (ja_cons (je_isC T.isinstance N.sh (je_tr 4 rfl (d := dMis Mi cuts word)) I.sh cI) (ja_cons (je_isC T.isinstance N.un (je_tr 4 rfl (d := dMis Mi cuts word)) I.un cI) ja_nil))))))) (fun c => ?_) (fun c => ?_))
  · rw [decide_eq_false e4, decide_eq_false e5, decide_eq_false e6] at c; cases c
  refine jss_nil ?_
  refine jss_cons (js_if (JW.pt (jw_or (jt_not (jt_v (v := true) (je_call C_law_numbers hr (ja_cons (je_fld (d := .il cuts) (je_tr 4 rfl (d := dMis Mi cuts word)) L.i.cl n0 rfl) ja_nil) ⟨_, rfl, by omega⟩))) (fun _ => (jw_or (jt_not (jt_v (v := true) (je_call C_law_numbers hr (ja_cons (je_fld (d := .il word) (je_tr 4 rfl (d := dMis Mi cuts word)) L.i.cl n1 rfl) ja_nil) ⟨_, rfl, by omega⟩))) (fun _ => (jw_or1 (jt_c (jc_isnotB (p := misF row k cuts word) (q := true) (je_meth CM hr (je_tr 4 rfl (d := dMis Mi cuts word)) rfl (ja_cons (je_v 0 rfl) (ja_cons (je_v 1 rfl) ja_nil)) ⟨_, _, _, _, rfl, by omega, by omega, by omega⟩) je_bl)))))))) (fun c => ?_) (fun c => ?_))
  · rw [hok] at c; cases c
  refine jss_nil ?_
  refine jss_cons (js_if (jt_not (jt_v (v := misF row k cuts word) (je_call C_law_missed hr (ja_cons (je_v 0 rfl) (ja_cons (je_v 1 rfl) (ja_cons (je_fld (d := .il cuts) (je_tr 4 rfl (d := dMis Mi cuts word)) L.i.cl n0 rfl) (ja_cons (je_fld (d := .il word) (je_tr 4 rfl (d := dMis Mi cuts word)) L.i.cl n1 rfl) ja_nil)))) ⟨_, _, _, _, rfl, hz, by omega, by omega, by omega⟩))) (fun c => ?_) (fun c => ?_))
  · rw [hok] at c; cases c
  refine jss_nil ?_
  refine jss_cons (js_for (fun rest ρ => ∃ (r : List (List Int × Int)) (x6 x7 : Option Lf.E), (∀ z, z ∈ r → z.1.length ≤ 63 ∧ 0 ≤ z.2) ∧ rest = r.map (fun z => D.tup [.il z.1, .int z.2]) ∧ ρ = [some (.v .imm (.il row)), some (.v .imm (.int k)), some (.v .imm (.scr cs)), some (.v .frs (.il row)), some (.tr .frs (.ob a Mi ["cuts", "word"] [.li b0 cuts, .li b1 word])), none, x6, x7, none, none])
    (ji_lst (JO.je (jo_lst (l := .imm) (ja_cons (je_tup (l := .imm) (ja_cons (je_v 0 rfl) (ja_cons (JE.sc (l' := .imm) (je_add (je_v 1 rfl) je_int) rfl) ja_nil))) (ja_cons (je_tup (l := .imm) (ja_cons (je_v 0 rfl) (ja_cons (JE.sc (l' := .imm) (je_max T.max je_int (je_sub (je_v 1 rfl) je_int)) rfl) ja_nil))) (ja_cons (je_tup (l := .imm) (ja_cons (JE.up (l' := .imm) (JOI.je (joi_rev (je_v 0 rfl))) rfl) (ja_cons (je_v 1 rfl) ja_nil))) ja_nil))))))
    ⟨[(row, k + 1), (row, if k - 1 > 1 then k - 1 else 1), (row.reverse, k)], none, none, fun z hz' => by
      simp only [List.mem_cons, List.not_mem_nil, or_false] at hz'
      rcases hz' with rfl | rfl | rfl
      · exact ⟨hz, by show 0 ≤ k + 1; omega⟩
      · refine ⟨hz, ?_⟩
        show 0 ≤ (if k - 1 > 1 then k - 1 else 1)
        split <;> omega
      · exact ⟨by rw [List.length_reverse]; exact hz, by show 0 ≤ k; omega⟩, rfl, rfl⟩ (fun d rest ρ' hv => ?_) (fun ρ' hv => ?_))
  · obtain ⟨r, x6, x7, hr', hrest, rfl⟩ := hv
    cases r with
    | nil => cases hrest
    | cons z r =>
      obtain ⟨rfl, rfl⟩ := List.cons.inj hrest
      obtain ⟨hz1, hz2⟩ := hr' z (List.mem_cons_self ..)
      refine ⟨_, jg_pair 6 7 sc_law_right.nd, ?_⟩
      refine jss_one (js_if (jt_c (jc_neB (p := misF z.1 z.2 cuts word) (q := misF z.1 z.2 cuts word) (je_meth CM hr (je_tr 4 rfl (d := dMis Mi cuts word)) rfl (ja_cons (je_v 6 rfl) (ja_cons (je_v 7 rfl) ja_nil)) ⟨_, _, _, _, rfl, by omega, by omega, by omega⟩) (je_call C_law_missed hr (ja_cons (je_v 6 rfl) (ja_cons (je_v 7 rfl) (ja_cons (je_fld (d := .il cuts) (je_tr 4 rfl (d := dMis Mi cuts word)) L.i.cl n0 rfl) (ja_cons (je_fld (d := .il word) (je_tr 4 rfl (d := dMis Mi cuts word)) L.i.cl n1 rfl) ja_nil)))) ⟨_, _, _, _, rfl, hz1, hz2, by omega, by omega⟩))) (fun c => ?_) (fun c => ?_))
      · rw [beq_self_eq_true] at c; cases c
      exact jss_nil ⟨r, _, _, fun e' h' => hr' e' (List.mem_cons_of_mem _ h'), rfl, rfl⟩
  obtain ⟨r, x6, x7, _, hrest, rfl⟩ := hv
  refine jss_cons (js_forI (ns := [1, 5, 25]) (fun rest ρ => ∃ (x5 x8 : Option Lf.E), (∀ z, z ∈ rest → z = 1 ∨ z = 5 ∨ z = 25) ∧ ρ = [some (.v .imm (.il row)), some (.v .imm (.int k)), some (.v .imm (.scr cs)), some (.v .frs (.il row)), some (.tr .frs (.ob a Mi ["cuts", "word"] [.li b0 cuts, .li b1 word])), x5, x6, x7, x8, none])
    (ji_list (JOI.je (joi_lst (l := .frs) (ns := [1, 5, 25]) (ja_cons je_int (ja_cons je_int (ja_cons je_int ja_nil)))))) ⟨none, none, fun z hz' => by simpa using hz', rfl⟩ (fun by_ rest ρ' hv => ?_) (fun ρ' hv => ?_))
  · obtain ⟨x5, x8, hby, rfl⟩ := hv
    have hb := hby by_ (List.mem_cons_self ..)
    have hcut := cutL_length cs none (some (cuts.length : Int))
    refine ⟨_, jg_name 5 sc_law_right.nd, ?_⟩
    refine jss_cons (js_mapVI 8 (w := "_law_cell") (n := 9) (f := fun c => c / by_ % k) (ji_list (JOI.je (joi_cutS (je_v 2 rfl) jp_none (jp_some (je_len T.len (je_fld (d := .il cuts) (je_tr 4 rfl (d := dMis Mi cuts word)) L.i.cl n0 rfl)))))) (fun _ _ _ _ _ _ => jgb_name 9 sc_law_right.nd) (fun k hk _ _ _ _ _ => (je_mod (je_div (je_v 9 rfl) (je_v 5 rfl) ⟨by omega, by omega⟩) (je_v 1 rfl) (by omega))) ?_ sc_law_right.nd (blkOk_by (N := N_right) (sc := defScope s_law_right) (by decide +kernel)) (by omega))
    have hwo : ((cutL cs none (some (cuts.length : Int))).map fun c => c / by_ % k).all (inr k) = true := by
      rw [List.all_map, List.all_eq_true]
      intro c _
      exact inr_iff.mpr ⟨Int.emod_nonneg _ (by omega), Int.emod_lt_of_pos _ (by omega)⟩
    have hwn : ((cutL cs none (some (cuts.length : Int))).map fun c => c / by_ % k).length ≤ cuts.length := by
      rw [List.length_map, cutL_to _ (by omega), List.length_take]
      omega
    have hle := word_isLeft hc1 hwo hwn
    generalize ((cutL cs none (some (cuts.length : Int))).map fun c => c / by_ % k) = wd at hwo hwn hle
    refine jss_one (js_if (jt_not (jt_v (v := true) (je_isC T.isinstance N.le (je_call (d := dLeft Le (eF 0 row wd)) C_left hr (ja_cons (je_v 0 rfl) (ja_cons (je_v 8 rfl) ja_nil)) ⟨_, _, rfl, by omega, by omega⟩ (by show dleft Le Sh row wd = _; unfold dleft; rw [if_pos hle])) ILL LL.i))) (fun c => ?_) (fun c => ?_))
    · cases c
    exact jss_nil ⟨_, _, fun z hz' => hby z (List.mem_cons_of_mem _ hz'), rfl⟩
  obtain ⟨x5, x8, _, rfl⟩ := hv
  refine jss_cons (js_appPI 4 [0] (je_trF 4 [] (je_trR 4 rfl) rfl rfl rfl L.i.cl n0) rfl rfl (je_add (je_len T.len (je_v 0 rfl)) je_int) ?_ (by omega))
  refine jss_cons (js_if (jt_c (jc_isnotB (p := misF row k (cuts ++ [(row.length : Int) + 1]) word) (q := false) (je_meth CM hr (je_tr 4 rfl (d := dMis Mi (cuts ++ [(row.length : Int) + 1]) word)) rfl (ja_cons (je_v 0 rfl) (ja_cons (je_v 1 rfl) ja_nil)) ⟨_, _, _, _, rfl, by omega, by omega, by omega⟩) je_bl)) (fun c => ?_) (fun c => ?_))
  · rw [mis_cut _ (by omega)] at c; cases c
  refine jss_nil ?_
  refine jss_cons (js_popPI 4 [0] (je_trF 4 [] (je_trR 4 rfl) rfl rfl rfl L.i.cl n0) rfl rfl ?_ (by rw [List.length_append, List.length_singleton]; omega))
  rw [List.dropLast_concat]
  refine jss_cons (js_appPI 4 [1] (je_trF 4 [] (je_trR 4 rfl) rfl rfl rfl L.i.cl n1) rfl rfl je_int ?_ (by omega))
  refine jss_one (js_ret (je_c (jc_isB (p := misF row k cuts (word ++ [0])) (q := false) (je_meth CM hr (je_tr 4 rfl (d := dMis Mi cuts (word ++ [0]))) rfl (ja_cons (je_v 0 rfl) (ja_cons (je_v 1 rfl) ja_nil)) ⟨_, _, _, _, rfl, by omega, by omega, by rw [List.length_append, List.length_singleton]; omega⟩) je_bl)) ?_)
  rw [mis_word hok]
  rfl

end
end Kc

set_option Elab.async false
set_option linter.all false
set_option maxRecDepth 100000
set_option maxHeartbeats 2000000
set_option autoImplicit false
namespace Kc
open PySem L2 Lf M1 M2
section
variable {P : Program} {w : World} {K : PySem.W.Frag} {mg : Str → Option Value} {base : Heap}
open M4
variable {An Bo Le Lo Mi Mx Sh Un : Addr}
def p_law (ds : List D) : Prop := ∃ cs : List Int, ds = [.scr cs] ∧ cs.length ≤ 63
def g_law (_ : List D) : D := .bl true
abbrev N_law : List Str := ["_law_script", "_law_strange", "_law_row", "_law_code", "_law_some", "_law_kinds", "_law_cell", "_law_sign"]
theorem sc_law : FnScope N_law ["_law_script"] (defScope s_law) := ⟨rfl, rfl, rfl, by decide +kernel, rfl, by decide +kernel, by decide +kernel⟩
def mostR (m : Int) : Int := if m = 0 then 2 else if m = 1 then 3 else if m = 2 then 5 else 30
theorem mostR_pos (m : Int) : 0 < mostR m := by unfold mostR; split; decide; split; decide; split; decide; decide
theorem mostR_gD (c : Int) : gD [D.int 2, .int 3, .int 5, .int 30] (c % 4) = .int (mostR (c % 4)) := by
  have h1 := Int.emod_nonneg c (show (4 : Int) ≠ 0 by decide)
  have h2 := Int.emod_lt_of_pos c (show (0 : Int) < 4 by decide)
  have h : c % 4 = 0 ∨ c % 4 = 1 ∨ c % 4 = 2 ∨ c % 4 = 3 := by omega
  rcases h with h | h | h | h <;> rw [h] <;> rfl
def addR (m : Int) : Int := if m = 3 then -7 else if m = 4 then 10 ^ (30 : Int).toNat else 0
theorem addR_gD (c : Int) : gD [D.int 0, .int 0, .int 0, .int (-7), .int (10 ^ (30 : Int).toNat)] (c % 5) = .int (addR (c % 5)) := by
  have h1 := Int.emod_nonneg c (show (5 : Int) ≠ 0 by decide)
  have h2 := Int.emod_lt_of_pos c (show (0 : Int) < 5 by decide)
  have h : c % 5 = 0 ∨ c % 5 = 1 ∨ c % 5 = 2 ∨ c % 5 = 3 ∨ c % 5 = 4 := by omega
  rcases h with h | h | h | h | h <;> rw [h] <;> rfl
def stF (d : D) : Int := match d with | .tup [.int s, .int c] => s + addR (c / 60 % 5) | _ => 0
def stE (ρ : PEnv) (d : D) : PEnv := match d with | .tup [d1, d2] => (ρ.set 7 (some (.v .frs d1))).set 6 (some (.v .frs d2)) | _ => ρ
theorem zip_mem {ns ms : List Int} {d : D} (h : d ∈ zipI ns ms) : ∃ i j, d = .tup [.int i, .int j] := by
  unfold zipI at h
  obtain ⟨p, _, rfl⟩ := List.mem_map.mp h
  exact ⟨_, _, rfl⟩
theorem ok_law {f : Addr} {fd : FuncData} (F : Fun K "law" "law" s_law f fd) (T : Blt mg) (C_law_right : Callee P w K mg base 4 "_law_right" p_law_right g_law_right) : FnOk P w K mg base CX0 5 f fd ["_law_script"] (spF K p_law g_law) := by
  refine fn_ok (k := 4) F sc_law (by rintro ds ⟨i, rfl, _⟩; rfl) fun cdv A outer s H E hr ds hp => ?_
  obtain ⟨cs, rfl, hz⟩ := hp
  have h1 := Int.emod_nonneg cs.sum (show (4 : Int) ≠ 0 by decide)
  have h2 := Int.emod_lt_of_pos cs.sum (show (0 : Int) < 4 by decide)
  have hmp := mostR_pos (cs.sum % 4)
  refine jss_cons (js_par 2 3 (l := .frs) (d1 := .il (cs.map fun c => c % mostR (cs.sum % 4))) (d2 := .int (cs.sum / 4)) (ja_cons (JOI.je (joi_mapI (x := "_law_cell") (n := 6) (f := fun c => c % mostR (cs.sum % 4)) (ji_listS (je_v 0 rfl)) (fun _ _ _ _ _ _ => jgb_name 6 sc_law.nd) (fun k hk _ _ _ _ _ => (je_mod (je_v 6 rfl) (je_ixT (je_tup (l := .frs) (ja_cons je_int (ja_cons je_int (ja_cons je_int (ja_cons je_int ja_nil))))) (je_mod (je_sumS T.sum (je_v 0 rfl)) je_int (by decide)) ⟨by show -(4 : Int) ≤ _; omega, by show _ < (4 : Int); omega⟩ (mostR_gD cs.sum)) hmp)) sc_law.nd (blkOk_by (N := N_law) (sc := defScope s_law) (by decide +kernel)) (by omega))) (ja_cons (je_div (je_sumS T.sum (je_v 0 rfl)) je_int ⟨by decide, by decide⟩) ja_nil)) ?_ (by decide) sc_law.nd)
  have hrl : (cs.map fun c => c % mostR (cs.sum % 4)).length ≤ 63 := by rw [List.length_map]; exact hz
  generalize (cs.map fun c => c % mostR (cs.sum % 4)) = row at hrl
  generalize cs.sum / 4 = code
  have hzl : (zipI row cs).length ≤ 63 := by unfold zipI; rw [List.length_map, List.length_zip]; omega
  refine jss_cons (js_lcVI 1 (own := [("_law_sign", 7), ("_law_cell", 6)]) (Tst := fun _ => true) (f := stF) (ρd := fun d => stE (wipeL [some (.v .imm (.scr cs)), none, some (.v .frs (.il row)), some (.v .frs (.int code)), none, none, none, none] [7, 6]) d)
    (ji_zipS T.zip (je_v 2 rfl) (je_v 0 rfl))
    (fun d hd _ _ _ _ _ => by obtain ⟨i, j, rfl⟩ := zip_mem hd; exact jgb_pair 7 6 sc_law.nd)
    (fun d hd _ _ _ _ _ => jts_nil)
    (fun d hd _ _ _ _ _ _ => by
      obtain ⟨i, j, rfl⟩ := zip_mem hd
      have q1 := Int.emod_nonneg (j / 60) (show (5 : Int) ≠ 0 by decide)
      have q2 := Int.emod_lt_of_pos (j / 60) (show (0 : Int) < 5 by decide)
      exact (je_add (je_v 7 rfl) (je_ixT (je_tup (l := .frs) (ja_cons je_int (ja_cons je_int (ja_cons je_int (ja_cons (je_neg je_int) (ja_cons (je_pow je_int je_int ⟨by decide, by decide, by decide⟩) ja_nil)))))) (je_mod (je_div (je_v 6 rfl) je_int ⟨by decide, by decide⟩) je_int (by decide)) ⟨by show -(5 : Int) ≤ _; omega, by show _ < (5 : Int); omega⟩ (addR_gD (j / 60))))) ?_ sc_law.nd (blkOk_by (N := N_law) (sc := defScope s_law) (by decide +kernel)) (by omega))
  have hsl : (((zipI row cs).filter fun _ => true).map stF).length ≤ 63 := by
    rw [List.length_map]
    exact Nat.le_trans (List.length_filter_le _ _) hzl
  generalize ((zipI row cs).filter fun _ => true).map stF = st at hsl
  have m5 := Int.emod_nonneg code (show (5 : Int) ≠ 0 by decide)
  have m5' := Int.emod_lt_of_pos code (show (0 : Int) < 5 by decide)
  have hsu : (sortU row).length ≤ 63 := Nat.le_trans (sub_len (nodup_of_pw (pw_sortU row)) fun x hx => mem_sortU.mp hx) hrl
  refine jss_cons (js_for (fun rest ρ => ∃ (r : List (List Int × Int)) (x4 x5 : Option Lf.E), (∀ z, z ∈ r → z.1.length ≤ 63 ∧ 1 ≤ z.2 ∧ z.2 < 1000) ∧ rest = r.map (fun z => D.tup [.il z.1, .int z.2]) ∧ ρ = [some (.v .imm (.scr cs)), some (.v .frs (.il st)), some (.v .frs (.il row)), some (.v .frs (.int code)), x4, x5, none, none])
    (ji_lst (JO.je (jo_lst (l := .frs) (ja_cons (je_tup (l := .frs) (ja_cons (je_v 2 rfl) (ja_cons (je_add je_int (je_mod (je_v 3 rfl) je_int (by decide))) ja_nil))) (ja_cons (je_tup (l := .frs) (ja_cons (je_v 2 rfl) (ja_cons (je_add (je_lenSet T.len T.set (je_v 2 rfl) (by omega)) je_int) ja_nil))) (ja_cons (je_tup (l := .frs) (ja_cons (je_v 2 rfl) (ja_cons (je_max T.max je_int (je_lenSet T.len T.set (je_v 2 rfl) (by omega))) ja_nil))) (ja_cons (je_tup (l := .frs) (ja_cons (je_v 1 rfl) (ja_cons je_int ja_nil))) ja_nil)))))))
    ⟨[(row, 1 + code % 5), (row, ((sortU row).length : Int) + 1), (row, if ((sortU row).length : Int) > 1 then ((sortU row).length : Int) else 1), (st, 2)], none, none, fun z hz' => by
      simp only [List.mem_cons, List.not_mem_nil, or_false] at hz'
      rcases hz' with rfl | rfl | rfl | rfl
      · exact ⟨hrl, by show 1 ≤ 1 + code % 5; omega, by show 1 + code % 5 < 1000; omega⟩
      · exact ⟨hrl, by show 1 ≤ ((sortU row).length : Int) + 1; omega, by show ((sortU row).length : Int) + 1 < 1000; omega⟩
      · refine ⟨hrl, ?_, ?_⟩
        · show 1 ≤ (if ((sortU row).length : Int) > 1 then ((sortU row).length : Int) else 1)
          split <;> omega
        · show (if ((sortU row).length : Int) > 1 then ((sortU row).length : Int) else 1) < 1000
          split <;> omega
      · exact ⟨hsl, by show (1 : Int) ≤ 2; decide, by show (2 : Int) < 1000; decide⟩, rfl, rfl⟩ (fun d rest ρ' hv => ?_) (fun ρ' hv => ?_))
  · obtain ⟨r, x4, x5, hr', hrest, rfl⟩ := hv
    cases r with
    | nil => cases hrest
    | cons z r =>
      obtain ⟨rfl, rfl⟩ := List.cons.inj hrest
      obtain ⟨hz1, hz2, hz3⟩ := hr' z (List.mem_cons_self ..)
      refine ⟨_, jg_pair 4 5 sc_law.nd, ?_⟩
      refine jss_one (js_if (jt_not (jt_v (v := true) (je_call C_law_right hr (ja_cons (je_v 4 rfl) (ja_cons (je_v 5 rfl) (ja_cons (je_v 0 rfl) ja_nil))) ⟨_, _, _, rfl, hz1, hz2, hz, Nat.lt_trans (show z.2.natAbs < 1000 by omega) (by decide)⟩))) (fun c => ?_) (fun c => ?_))
      · cases c
      exact jss_nil ⟨r, _, _, fun e' h' => hr' e' (List.mem_cons_of_mem _ h'), rfl, rfl⟩
  obtain ⟨r, x4, x5, _, hrest, rfl⟩ := hv
  have m40 := Int.emod_nonneg (code / 5) (show (40 : Int) ≠ 0 by decide)
  have m40' := Int.emod_lt_of_pos (code / 5) (show (0 : Int) < 40 by decide)
  refine jss_cons (js_if (jt_not (jt_v (v := true) (je_call C_law_right hr (ja_cons (je_v 2 rfl) (ja_cons (je_add je_int (je_mod (je_div (je_v 3 rfl) je_int ⟨by decide, by decide⟩) je_int (by decide))) (ja_cons (je_v 0 rfl) ja_nil))) ⟨_, _, _, rfl, hrl, by omega, hz, Nat.lt_trans (show (1 + code / 5 % 40).natAbs < 1000 by omega) (by decide)⟩))) (fun c => ?_) (fun c => ?_))
  · cases c
  refine jss_nil ?_
  have m7 := Int.emod_nonneg code (show (7 : Int) ≠ 0 by decide)
  have m7' := Int.emod_lt_of_pos code (show (0 : Int) < 7 by decide)
  have hp30 : (10 : Int) ^ (30 : Int).toNat = 1000000000000000000000000000000 := by decide
  refine jss_one (js_ret (JE.eq (je_and (v := true) (u := true) (je_call C_law_right hr (ja_cons (je_v 2 rfl) (ja_cons (je_add (je_pow je_int je_int ⟨by decide, by decide, by decide⟩) (je_mod (je_v 3 rfl) je_int (by decide))) (ja_cons (je_v 0 rfl) ja_nil))) ⟨_, _, _, rfl, hrl, by rw [hp30]; omega, hz, Nat.lt_trans (show ((10 : Int) ^ (30 : Int).toNat + code % 7).natAbs < 2 ^ 101 by rw [hp30, show (2 : Nat) ^ 101 = 2535301200456458802993406410752 by decide]; omega) (by decide)⟩) (fun _ => (je_one (je_call C_law_right hr (ja_cons (je_v 1 rfl) (ja_cons je_int (ja_cons (je_v 0 rfl) ja_nil))) ⟨_, _, _, rfl, hsl, by decide, hz, by decide⟩)))) rfl) rfl)

end
end Kc

set_option Elab.async false
set_option linter.all false
set_option maxRecDepth 100000
set_option maxHeartbeats 2000000
set_option autoImplicit false
namespace Kc
open PySem L2 Lf
theorem all_mk {l : PySem.W.OpenLaw} {w : World} {K : PySem.W.Frag} {h : Heap} {mg : Str → Option Value} {fa CAnswer CBoth CLeft CLongest CMissing CMixed CShort CUnmixed f_is_number f_check_row f_check_kinds f_earliest f_Left_init f_Short_init f_Missing_init f_Missing_shows f_left f_missing f_law_numbers f_law_is_left f_law_missed f_law_right f_law : Addr} (X : K.In h) (G : h.Ns mainGlobals mg) (hfa : mg "law" = some (.ref fa))
    {od_is_number an_is_number od_check_row an_check_row od_check_kinds an_check_kinds od_earliest an_earliest od_Left_init an_Left_init od_Short_init an_Short_init od_Missing_init an_Missing_init od_Missing_shows an_Missing_shows od_left an_left od_missing an_missing od_law_numbers an_law_numbers od_law_is_left an_law_is_left od_law_missed an_law_missed od_law_right an_law_right od_law an_law : Option Addr} {sl_is_number sl_check_row sl_check_kinds sl_earliest sl_Left_init sl_Short_init sl_Missing_init sl_Missing_shows sl_left sl_missing sl_law_numbers sl_law_is_left sl_law_missed sl_law_right sl_law : Array (Option Value)} {oc_is_number kV_is_number dc_is_number pm_is_number cd_is_number ct_is_number oc_check_row kV_check_row dc_check_row pm_check_row cd_check_row ct_check_row oc_check_kinds kV_check_kinds dc_check_kinds pm_check_kinds cd_check_kinds ct_check_kinds oc_earliest kV_earliest dc_earliest pm_earliest cd_earliest ct_earliest oc_Left_init kV_Left_init dc_Left_init pm_Left_init cd_Left_init ct_Left_init oc_Short_init kV_Short_init dc_Short_init pm_Short_init cd_Short_init ct_Short_init oc_Missing_init kV_Missing_init dc_Missing_init pm_Missing_init cd_Missing_init ct_Missing_init oc_Missing_shows kV_Missing_shows dc_Missing_shows pm_Missing_shows cd_Missing_shows ct_Missing_shows oc_left kV_left dc_left pm_left cd_left ct_left oc_missing kV_missing dc_missing pm_missing cd_missing ct_missing oc_law_numbers kV_law_numbers dc_law_numbers pm_law_numbers cd_law_numbers ct_law_numbers oc_law_is_left kV_law_is_left dc_law_is_left pm_law_is_left cd_law_is_left ct_law_is_left oc_law_missed kV_law_missed dc_law_missed pm_law_missed cd_law_missed ct_law_missed oc_law_right kV_law_right dc_law_right pm_law_right cd_law_right ct_law_right oc_law kV_law dc_law pm_law cd_law ct_law : Value}
    (n_isinstance : PySem.W.nsIn K mainGlobals "isinstance" = some none)
    (n_int : PySem.W.nsIn K mainGlobals "int" = some none)
    (n_bool : PySem.W.nsIn K mainGlobals "bool" = some none)
    (n_list : PySem.W.nsIn K mainGlobals "list" = some none)
    (n_tuple : PySem.W.nsIn K mainGlobals "tuple" = some none)
    (n_len : PySem.W.nsIn K mainGlobals "len" = some none)
    (n_range : PySem.W.nsIn K mainGlobals "range" = some none)
    (n_reversed : PySem.W.nsIn K mainGlobals "reversed" = some none)
    (n_enumerate : PySem.W.nsIn K mainGlobals "enumerate" = some none)
    (n_zip : PySem.W.nsIn K mainGlobals "zip" = some none)
    (n_sum : PySem.W.nsIn K mainGlobals "sum" = some none)
    (n_min : PySem.W.nsIn K mainGlobals "min" = some none)
    (n_max : PySem.W.nsIn K mainGlobals "max" = some none)
    (n_all : PySem.W.nsIn K mainGlobals "all" = some none)
    (n_any : PySem.W.nsIn K mainGlobals "any" = some none)
    (n_set : PySem.W.nsIn K mainGlobals "set" = some none)
    (n_sorted : PySem.W.nsIn K mainGlobals "sorted" = some none)
    (g_get : PySem.W.specialIn K (.builtin "object.__class__") "__get__" = some (some (.builtin "getset_descriptor.__get__")))
    (g_tk : PySem.W.takesIn K (.builtin "object.__class__") = some true)
    (a_Answer : PySem.W.nsIn K mainGlobals "Answer" = some (some (.ref CAnswer)))
    (a_Both : PySem.W.nsIn K mainGlobals "Both" = some (some (.ref CBoth)))
    (a_Left : PySem.W.nsIn K mainGlobals "Left" = some (some (.ref CLeft)))
    (pg_Left : PySem.W.plainGet K CLeft Str.empty = true)
    (hd_Left : PySem.W.hasDictIn K CLeft = true)
    (po_Left : PySem.W.plainOver K CLeft = true)
    (sa_Left : PySem.W.findIn K (.ref CLeft) "__setattr__" = some (some (.builtin "object.__setattr__")))
    (cc_Left : PySem.W.findIn K (.ref CLeft) "__class__" = some (some (.builtin "object.__class__")))
    (mo_Left : PySem.W.mroIn K CLeft (.type "object") = some true)
    (no_Left_places : PySem.W.findIn K (.ref CLeft) "places" = some none)
    (a_Longest : PySem.W.nsIn K mainGlobals "Longest" = some (some (.ref CLongest)))
    (a_Missing : PySem.W.nsIn K mainGlobals "Missing" = some (some (.ref CMissing)))
    (pg_Missing : PySem.W.plainGet K CMissing Str.empty = true)
    (hd_Missing : PySem.W.hasDictIn K CMissing = true)
    (po_Missing : PySem.W.plainOver K CMissing = true)
    (sa_Missing : PySem.W.findIn K (.ref CMissing) "__setattr__" = some (some (.builtin "object.__setattr__")))
    (cc_Missing : PySem.W.findIn K (.ref CMissing) "__class__" = some (some (.builtin "object.__class__")))
    (mo_Missing : PySem.W.mroIn K CMissing (.type "object") = some true)
    (no_Missing_cuts : PySem.W.findIn K (.ref CMissing) "cuts" = some none)
    (no_Missing_word : PySem.W.findIn K (.ref CMissing) "word" = some none)
    (a_Mixed : PySem.W.nsIn K mainGlobals "Mixed" = some (some (.ref CMixed)))
    (a_Short : PySem.W.nsIn K mainGlobals "Short" = some (some (.ref CShort)))
    (pg_Short : PySem.W.plainGet K CShort Str.empty = true)
    (hd_Short : PySem.W.hasDictIn K CShort = true)
    (po_Short : PySem.W.plainOver K CShort = true)
    (sa_Short : PySem.W.findIn K (.ref CShort) "__setattr__" = some (some (.builtin "object.__setattr__")))
    (cc_Short : PySem.W.findIn K (.ref CShort) "__class__" = some (some (.builtin "object.__class__")))
    (mo_Short : PySem.W.mroIn K CShort (.type "object") = some true)
    (no_Short_places : PySem.W.findIn K (.ref CShort) "places" = some none)
    (a_Unmixed : PySem.W.nsIn K mainGlobals "Unmixed" = some (some (.ref CUnmixed)))
    (i_Missing_Missing : PySem.W.kitOne K (.ref CMissing) (.ref CMissing) = some true)
    (i_Missing_Answer : PySem.W.kitOne K (.ref CMissing) (.ref CAnswer) = some true)
    (i_Missing_Both : PySem.W.kitOne K (.ref CMissing) (.ref CBoth) = some false)
    (i_Missing_Left : PySem.W.kitOne K (.ref CMissing) (.ref CLeft) = some false)
    (i_Missing_Longest : PySem.W.kitOne K (.ref CMissing) (.ref CLongest) = some false)
    (i_Missing_Mixed : PySem.W.kitOne K (.ref CMissing) (.ref CMixed) = some false)
    (i_Missing_Short : PySem.W.kitOne K (.ref CMissing) (.ref CShort) = some false)
    (i_Missing_Unmixed : PySem.W.kitOne K (.ref CMissing) (.ref CUnmixed) = some false)
    (i_Left_Left : PySem.W.kitOne K (.ref CLeft) (.ref CLeft) = some true)
    (a_is_number : PySem.W.nsIn K mainGlobals "is_number" = some (some (.ref f_is_number)))
    (l_is_number : K.lookup f_is_number = some ⟨oc_is_number, od_is_number, .func (PySem.W.fnOf "is_number" "is_number" (defArgs s_is_number) (defBody s_is_number) (defScope s_is_number) .none kV_is_number dc_is_number pm_is_number an_is_number cd_is_number ct_is_number), sl_is_number⟩)
    (c_is_number : PySem.W.codeIn K cd_is_number "is_number" = true)
    (k_is_number : PySem.W.keepIn K (.ref f_is_number) = true)
    (a_check_row : PySem.W.nsIn K mainGlobals "check_row" = some (some (.ref f_check_row)))
    (l_check_row : K.lookup f_check_row = some ⟨oc_check_row, od_check_row, .func (PySem.W.fnOf "check_row" "check_row" (defArgs s_check_row) (defBody s_check_row) (defScope s_check_row) .none kV_check_row dc_check_row pm_check_row an_check_row cd_check_row ct_check_row), sl_check_row⟩)
    (c_check_row : PySem.W.codeIn K cd_check_row "check_row" = true)
    (k_check_row : PySem.W.keepIn K (.ref f_check_row) = true)
    (a_check_kinds : PySem.W.nsIn K mainGlobals "check_kinds" = some (some (.ref f_check_kinds)))
    (l_check_kinds : K.lookup f_check_kinds = some ⟨oc_check_kinds, od_check_kinds, .func (PySem.W.fnOf "check_kinds" "check_kinds" (defArgs s_check_kinds) (defBody s_check_kinds) (defScope s_check_kinds) .none kV_check_kinds dc_check_kinds pm_check_kinds an_check_kinds cd_check_kinds ct_check_kinds), sl_check_kinds⟩)
    (c_check_kinds : PySem.W.codeIn K cd_check_kinds "check_kinds" = true)
    (k_check_kinds : PySem.W.keepIn K (.ref f_check_kinds) = true)
    (a_earliest : PySem.W.nsIn K mainGlobals "earliest" = some (some (.ref f_earliest)))
    (l_earliest : K.lookup f_earliest = some ⟨oc_earliest, od_earliest, .func (PySem.W.fnOf "earliest" "earliest" (defArgs s_earliest) (defBody s_earliest) (defScope s_earliest) .none kV_earliest dc_earliest pm_earliest an_earliest cd_earliest ct_earliest), sl_earliest⟩)
    (c_earliest : PySem.W.codeIn K cd_earliest "earliest" = true)
    (k_earliest : PySem.W.keepIn K (.ref f_earliest) = true)
    (t_Left_init : PySem.W.findIn K (.ref CLeft) "__init__" = some (some (.ref f_Left_init)))
    (l_Left_init : K.lookup f_Left_init = some ⟨oc_Left_init, od_Left_init, .func (PySem.W.fnOf "__init__" "Left.__init__" (defArgs s_Left_init) (defBody s_Left_init) (defScope s_Left_init) .none kV_Left_init dc_Left_init pm_Left_init an_Left_init cd_Left_init ct_Left_init), sl_Left_init⟩)
    (c_Left_init : PySem.W.codeIn K cd_Left_init "Left.__init__" = true)
    (k_Left_init : PySem.W.keepIn K (.ref f_Left_init) = true)
    (fn_Left_init : PySem.W.isFn K (.ref f_Left_init) = true)
    (m_Left_init : PySem.W.makesIn K CLeft = true)
    (q_Left_init : PySem.W.keepIn K (.ref CLeft) = true)
    (t_Short_init : PySem.W.findIn K (.ref CShort) "__init__" = some (some (.ref f_Short_init)))
    (l_Short_init : K.lookup f_Short_init = some ⟨oc_Short_init, od_Short_init, .func (PySem.W.fnOf "__init__" "Short.__init__" (defArgs s_Short_init) (defBody s_Short_init) (defScope s_Short_init) .none kV_Short_init dc_Short_init pm_Short_init an_Short_init cd_Short_init ct_Short_init), sl_Short_init⟩)
    (c_Short_init : PySem.W.codeIn K cd_Short_init "Short.__init__" = true)
    (k_Short_init : PySem.W.keepIn K (.ref f_Short_init) = true)
    (fn_Short_init : PySem.W.isFn K (.ref f_Short_init) = true)
    (m_Short_init : PySem.W.makesIn K CShort = true)
    (q_Short_init : PySem.W.keepIn K (.ref CShort) = true)
    (t_Missing_init : PySem.W.findIn K (.ref CMissing) "__init__" = some (some (.ref f_Missing_init)))
    (l_Missing_init : K.lookup f_Missing_init = some ⟨oc_Missing_init, od_Missing_init, .func (PySem.W.fnOf "__init__" "Missing.__init__" (defArgs s_Missing_init) (defBody s_Missing_init) (defScope s_Missing_init) .none kV_Missing_init dc_Missing_init pm_Missing_init an_Missing_init cd_Missing_init ct_Missing_init), sl_Missing_init⟩)
    (c_Missing_init : PySem.W.codeIn K cd_Missing_init "Missing.__init__" = true)
    (k_Missing_init : PySem.W.keepIn K (.ref f_Missing_init) = true)
    (fn_Missing_init : PySem.W.isFn K (.ref f_Missing_init) = true)
    (m_Missing_init : PySem.W.makesIn K CMissing = true)
    (q_Missing_init : PySem.W.keepIn K (.ref CMissing) = true)
    (t_Missing_shows : PySem.W.findIn K (.ref CMissing) "shows" = some (some (.ref f_Missing_shows)))
    (l_Missing_shows : K.lookup f_Missing_shows = some ⟨oc_Missing_shows, od_Missing_shows, .func (PySem.W.fnOf "shows" "Missing.shows" (defArgs s_Missing_shows) (defBody s_Missing_shows) (defScope s_Missing_shows) .none kV_Missing_shows dc_Missing_shows pm_Missing_shows an_Missing_shows cd_Missing_shows ct_Missing_shows), sl_Missing_shows⟩)
    (c_Missing_shows : PySem.W.codeIn K cd_Missing_shows "Missing.shows" = true)
    (k_Missing_shows : PySem.W.keepIn K (.ref f_Missing_shows) = true)
    (fn_Missing_shows : PySem.W.isFn K (.ref f_Missing_shows) = true)
    (a_left : PySem.W.nsIn K mainGlobals "left" = some (some (.ref f_left)))
    (l_left : K.lookup f_left = some ⟨oc_left, od_left, .func (PySem.W.fnOf "left" "left" (defArgs s_left) (defBody s_left) (defScope s_left) .none kV_left dc_left pm_left an_left cd_left ct_left), sl_left⟩)
    (c_left : PySem.W.codeIn K cd_left "left" = true)
    (k_left : PySem.W.keepIn K (.ref f_left) = true)
    (a_missing : PySem.W.nsIn K mainGlobals "missing" = some (some (.ref f_missing)))
    (l_missing : K.lookup f_missing = some ⟨oc_missing, od_missing, .func (PySem.W.fnOf "missing" "missing" (defArgs s_missing) (defBody s_missing) (defScope s_missing) .none kV_missing dc_missing pm_missing an_missing cd_missing ct_missing), sl_missing⟩)
    (c_missing : PySem.W.codeIn K cd_missing "missing" = true)
    (k_missing : PySem.W.keepIn K (.ref f_missing) = true)
    (a_law_numbers : PySem.W.nsIn K mainGlobals "_law_numbers" = some (some (.ref f_law_numbers)))
    (l_law_numbers : K.lookup f_law_numbers = some ⟨oc_law_numbers, od_law_numbers, .func (PySem.W.fnOf "_law_numbers" "_law_numbers" (defArgs s_law_numbers) (defBody s_law_numbers) (defScope s_law_numbers) .none kV_law_numbers dc_law_numbers pm_law_numbers an_law_numbers cd_law_numbers ct_law_numbers), sl_law_numbers⟩)
    (c_law_numbers : PySem.W.codeIn K cd_law_numbers "_law_numbers" = true)
    (k_law_numbers : PySem.W.keepIn K (.ref f_law_numbers) = true)
    (a_law_is_left : PySem.W.nsIn K mainGlobals "_law_is_left" = some (some (.ref f_law_is_left)))
    (l_law_is_left : K.lookup f_law_is_left = some ⟨oc_law_is_left, od_law_is_left, .func (PySem.W.fnOf "_law_is_left" "_law_is_left" (defArgs s_law_is_left) (defBody s_law_is_left) (defScope s_law_is_left) .none kV_law_is_left dc_law_is_left pm_law_is_left an_law_is_left cd_law_is_left ct_law_is_left), sl_law_is_left⟩)
    (c_law_is_left : PySem.W.codeIn K cd_law_is_left "_law_is_left" = true)
    (k_law_is_left : PySem.W.keepIn K (.ref f_law_is_left) = true)
    (a_law_missed : PySem.W.nsIn K mainGlobals "_law_missed" = some (some (.ref f_law_missed)))
    (l_law_missed : K.lookup f_law_missed = some ⟨oc_law_missed, od_law_missed, .func (PySem.W.fnOf "_law_missed" "_law_missed" (defArgs s_law_missed) (defBody s_law_missed) (defScope s_law_missed) .none kV_law_missed dc_law_missed pm_law_missed an_law_missed cd_law_missed ct_law_missed), sl_law_missed⟩)
    (c_law_missed : PySem.W.codeIn K cd_law_missed "_law_missed" = true)
    (k_law_missed : PySem.W.keepIn K (.ref f_law_missed) = true)
    (a_law_right : PySem.W.nsIn K mainGlobals "_law_right" = some (some (.ref f_law_right)))
    (l_law_right : K.lookup f_law_right = some ⟨oc_law_right, od_law_right, .func (PySem.W.fnOf "_law_right" "_law_right" (defArgs s_law_right) (defBody s_law_right) (defScope s_law_right) .none kV_law_right dc_law_right pm_law_right an_law_right cd_law_right ct_law_right), sl_law_right⟩)
    (c_law_right : PySem.W.codeIn K cd_law_right "_law_right" = true)
    (k_law_right : PySem.W.keepIn K (.ref f_law_right) = true)
    (a_law : PySem.W.nsIn K mainGlobals "law" = some (some (.ref f_law)))
    (l_law : K.lookup f_law = some ⟨oc_law, od_law, .func (PySem.W.fnOf "law" "law" (defArgs s_law) (defBody s_law) (defScope s_law) .none kV_law dc_law pm_law an_law cd_law ct_law), sl_law⟩)
    (c_law : PySem.W.codeIn K cd_law "law" = true)
    (k_law : PySem.W.keepIn K (.ref f_law) = true)
    : ∃ fd : FuncData, (∀ (s : Shared) (v : Value), BindsTo s fd ⟨[v], []⟩ [("_law_script", v)]) ∧ ∀ base : Heap, K.In base → base.Ns mainGlobals mg → FnOk l.prog w K mg base CX0 5 fa fd ["_law_script"] (spF K p_law g_law) := by
  have e := hfa.symm.trans (PySem.W.mg_of X G a_law)
  cases e
  have T : Blt mg := ⟨PySem.W.mg_none_of X G n_isinstance, PySem.W.mg_none_of X G n_int, PySem.W.mg_none_of X G n_bool, PySem.W.mg_none_of X G n_list, PySem.W.mg_none_of X G n_tuple, PySem.W.mg_none_of X G n_len, PySem.W.mg_none_of X G n_range, PySem.W.mg_none_of X G n_reversed, PySem.W.mg_none_of X G n_enumerate, PySem.W.mg_none_of X G n_zip, PySem.W.mg_none_of X G n_sum, PySem.W.mg_none_of X G n_min, PySem.W.mg_none_of X G n_max, PySem.W.mg_none_of X G n_all, PySem.W.mg_none_of X G n_any, PySem.W.mg_none_of X G n_set, PySem.W.mg_none_of X G n_sorted⟩
  have L_Left : Kl K CLeft ["places"] := ⟨⟨⟨pg_Left, hd_Left, po_Left, sa_Left⟩, cc_Left, g_get, g_tk, mo_Left⟩, fun f hf => by
    simp only [List.mem_cons, List.not_mem_nil, or_false] at hf
    rcases hf with rfl
    exact no_Left_places⟩
  have L_Missing : Kl K CMissing ["cuts", "word"] := ⟨⟨⟨pg_Missing, hd_Missing, po_Missing, sa_Missing⟩, cc_Missing, g_get, g_tk, mo_Missing⟩, fun f hf => by
    simp only [List.mem_cons, List.not_mem_nil, or_false] at hf
    rcases hf with rfl | rfl
    · exact no_Missing_cuts
    · exact no_Missing_word⟩
  have L_Short : Kl K CShort ["places"] := ⟨⟨⟨pg_Short, hd_Short, po_Short, sa_Short⟩, cc_Short, g_get, g_tk, mo_Short⟩, fun f hf => by
    simp only [List.mem_cons, List.not_mem_nil, or_false] at hf
    rcases hf with rfl
    exact no_Short_places⟩
  refine ⟨PySem.W.fnOf "law" "law" (defArgs s_law) (defBody s_law) (defScope s_law) .none kV_law dc_law pm_law an_law cd_law ct_law, fun s v => .of_eq rfl, fun base _ _ => ?_⟩
  have F_is_number := fun_mk (st := s_is_number) l_is_number c_is_number k_is_number
  have C_is_number : Callee l.prog w K mg base 1 "is_number" p_is_number g_is_number := ⟨⟨_, _, _, ok_is_number F_is_number T , PySem.W.mg_of X G a_is_number, k_is_number, F_is_number.binds (ps := ["thing"]) fun _ _ _ _ _ _ us hl => match us, hl with | [_], _ => rfl⟩⟩
  have F_check_row := fun_mk (st := s_check_row) l_check_row c_check_row k_check_row
  have C_check_row : Callee l.prog w K mg base 2 "check_row" p_check_row g_check_row := ⟨⟨_, _, _, ok_check_row F_check_row T C_is_number, PySem.W.mg_of X G a_check_row, k_check_row, F_check_row.binds (ps := ["row"]) fun _ _ _ _ _ _ us hl => match us, hl with | [_], _ => rfl⟩⟩
  have F_check_kinds := fun_mk (st := s_check_kinds) l_check_kinds c_check_kinds k_check_kinds
  have C_check_kinds : Callee l.prog w K mg base 2 "check_kinds" p_check_kinds g_check_kinds := ⟨⟨_, _, _, ok_check_kinds F_check_kinds T C_is_number, PySem.W.mg_of X G a_check_kinds, k_check_kinds, F_check_kinds.binds (ps := ["kinds"]) fun _ _ _ _ _ _ us hl => match us, hl with | [_], _ => rfl⟩⟩
  have F_earliest := fun_mk (st := s_earliest) l_earliest c_earliest k_earliest
  have C_earliest : Callee l.prog w K mg base 1 "earliest" p_earliest g_earliest := ⟨⟨_, _, _, ok_earliest F_earliest T , PySem.W.mg_of X G a_earliest, k_earliest, F_earliest.binds (ps := ["row", "other"]) fun _ _ _ _ _ _ us hl => match us, hl with | [_, _], _ => rfl⟩⟩
  have F_Left_init := fun_mk (st := s_Left_init) l_Left_init c_Left_init k_Left_init
  have M_Left : MakerU l.prog w K mg base 1 "Left" CLeft p_Left_init (g_Left_init CLeft) := ⟨PySem.W.mg_of X G a_Left, ⟨_, _, _, ok_Left_init F_Left_init T L_Left, ⟨m_Left_init, t_Left_init, fn_Left_init, q_Left_init⟩, F_Left_init.binds (ps := ["self", "places"]) fun _ _ _ _ _ _ us hl => match us, hl with | [_, _], _ => rfl⟩⟩
  have F_Short_init := fun_mk (st := s_Short_init) l_Short_init c_Short_init k_Short_init
  have M_Short : MakerU l.prog w K mg base 1 "Short" CShort p_Short_init (g_Short_init CShort) := ⟨PySem.W.mg_of X G a_Short, ⟨_, _, _, ok_Short_init F_Short_init T L_Short, ⟨m_Short_init, t_Short_init, fn_Short_init, q_Short_init⟩, F_Short_init.binds (ps := ["self", "places"]) fun _ _ _ _ _ _ us hl => match us, hl with | [_, _], _ => rfl⟩⟩
  have F_Missing_init := fun_mk (st := s_Missing_init) l_Missing_init c_Missing_init k_Missing_init
  have M_Missing : MakerU l.prog w K mg base 1 "Missing" CMissing p_Missing_init (g_Missing_init CMissing) := ⟨PySem.W.mg_of X G a_Missing, ⟨_, _, _, ok_Missing_init F_Missing_init T L_Missing, ⟨m_Missing_init, t_Missing_init, fn_Missing_init, q_Missing_init⟩, F_Missing_init.binds (ps := ["self", "cuts", "word"]) fun _ _ _ _ _ _ us hl => match us, hl with | [_, _, _], _ => rfl⟩⟩
  have F_Missing_shows := fun_mk (st := s_Missing_shows) l_Missing_shows c_Missing_shows k_Missing_shows
  have M_Missing_shows : CalleeM l.prog w K mg base 2 CMissing "shows" (p_Missing_shows CMissing) g_Missing_shows := ⟨L_Missing.i.cl, ⟨_, _, _, ok_Missing_shows F_Missing_shows T L_Missing C_earliest, ⟨t_Missing_shows, fn_Missing_shows, k_Missing_shows⟩, F_Missing_shows.binds (ps := ["self", "row", "kinds"]) fun _ _ _ _ _ _ us hl => match us, hl with | [_, _, _], _ => rfl⟩⟩
  have F_left := fun_mk (st := s_left) l_left c_left k_left
  have C_left : CalleeU l.prog w K mg base 3 "left" p_left (g_left CLeft CShort) := ⟨⟨_, _, _, ok_left F_left T C_check_row C_earliest M_Left M_Short, PySem.W.mg_of X G a_left, k_left, F_left.binds (ps := ["row", "other"]) fun _ _ _ _ _ _ us hl => match us, hl with | [_, _], _ => rfl⟩⟩
  have F_missing := fun_mk (st := s_missing) l_missing c_missing k_missing
  have C_missing : CalleeUR l.prog w K mg base 3 "missing" p_missing (r_missing CMissing) := ⟨⟨_, _, _, ok_missing F_missing T C_check_row C_check_kinds M_Missing, PySem.W.mg_of X G a_missing, k_missing, F_missing.binds (ps := ["row", "kinds"]) fun _ _ _ _ _ _ us hl => match us, hl with | [_, _], _ => rfl⟩⟩
  have F_law_numbers := fun_mk (st := s_law_numbers) l_law_numbers c_law_numbers k_law_numbers
  have C_law_numbers : Callee l.prog w K mg base 1 "_law_numbers" p_law_numbers g_law_numbers := ⟨⟨_, _, _, ok_law_numbers F_law_numbers T , PySem.W.mg_of X G a_law_numbers, k_law_numbers, F_law_numbers.binds (ps := ["_law_found"]) fun _ _ _ _ _ _ us hl => match us, hl with | [_], _ => rfl⟩⟩
  have F_law_is_left := fun_mk (st := s_law_is_left) l_law_is_left c_law_is_left k_law_is_left
  have C_law_is_left : Callee l.prog w K mg base 1 "_law_is_left" p_law_is_left g_law_is_left := ⟨⟨_, _, _, ok_law_is_left F_law_is_left T , PySem.W.mg_of X G a_law_is_left, k_law_is_left, F_law_is_left.binds (ps := ["_law_row", "_law_other"]) fun _ _ _ _ _ _ us hl => match us, hl with | [_, _], _ => rfl⟩⟩
  have F_law_missed := fun_mk (st := s_law_missed) l_law_missed c_law_missed k_law_missed
  have C_law_missed : Callee l.prog w K mg base 2 "_law_missed" p_law_missed g_law_missed := ⟨⟨_, _, _, ok_law_missed F_law_missed T C_law_is_left, PySem.W.mg_of X G a_law_missed, k_law_missed, F_law_missed.binds (ps := ["_law_row", "_law_kinds", "_law_cuts", "_law_word"]) fun _ _ _ _ _ _ us hl => match us, hl with | [_, _, _, _], _ => rfl⟩⟩
  have N : Nm mg CAnswer CBoth CLeft CLongest CMissing CMixed CShort CUnmixed := ⟨PySem.W.mg_of X G a_Answer, PySem.W.mg_of X G a_Both, PySem.W.mg_of X G a_Left, PySem.W.mg_of X G a_Longest, PySem.W.mg_of X G a_Missing, PySem.W.mg_of X G a_Mixed, PySem.W.mg_of X G a_Short, PySem.W.mg_of X G a_Unmixed⟩
  have I : Isa K CAnswer CBoth CLeft CLongest CMissing CMixed CShort CUnmixed CMissing := ⟨i_Missing_Answer, kit_no i_Missing_Missing i_Missing_Both, kit_no i_Missing_Missing i_Missing_Left, kit_no i_Missing_Missing i_Missing_Longest, kit_me i_Missing_Missing, kit_no i_Missing_Missing i_Missing_Mixed, kit_no i_Missing_Missing i_Missing_Short, kit_no i_Missing_Missing i_Missing_Unmixed⟩
  have F_law_right := fun_mk (st := s_law_right) l_law_right c_law_right k_law_right
  have C_law_right : Callee l.prog w K mg base 4 "_law_right" p_law_right g_law_right := ⟨⟨_, _, _, ok_law_right F_law_right T N L_Missing L_Left I i_Left_Left ⟨kit_ne i_Missing_Missing i_Missing_Both, kit_ne i_Missing_Missing i_Missing_Left, kit_ne i_Missing_Missing i_Missing_Longest, kit_ne i_Missing_Missing i_Missing_Mixed, kit_ne i_Missing_Missing i_Missing_Short, kit_ne i_Missing_Missing i_Missing_Unmixed⟩ M_Missing_shows C_missing C_left.callee C_law_numbers C_law_missed, PySem.W.mg_of X G a_law_right, k_law_right, F_law_right.binds (ps := ["_law_row", "_law_kinds", "_law_script"]) fun _ _ _ _ _ _ us hl => match us, hl with | [_, _, _], _ => rfl⟩⟩
  have F_law := fun_mk (st := s_law) l_law c_law k_law
  exact ok_law F_law T C_law_right
theorem spLaw_ok (K : PySem.W.Frag) (H : Hp) (a : Addr) (ns : List Int) (hl : ns.length ≤ 63) (h : SqL K H a (ns.map V.int)) : spF K p_law g_law [.ref a] H (fun v _ => v = .bl true) fun _ _ _ => False :=
  ⟨[.scr ns], .cons (.scr h) .nil, ⟨ns, rfl, hl⟩, fun v H' Hn _ _ _ rv => by cases rv; rfl⟩
theorem walk {l : PySem.W.OpenLaw} {q : Program} {loose : List Str} {XP : (Str → Option Value) → Heap → Prop} {YP : World → Heap → Prop} {d : DefRec} {K : Params → PySem.W.Frag} (hn : l.most = some 63) (hdf : d.params.defaults = [])
    (hY : ∀ (w : World) (h : Heap), YP w h → (K w.params).In h)
    (F : ∀ (w : World) (mg : Str → Option Value) (fa : Addr) (h : Heap), (K w.params).In h → h.Ns mainGlobals mg → mg d.name = some (.ref fa) →
      ∃ fd : FuncData, (∀ (s : Shared) (u : Value), BindsTo s fd ⟨[u], []⟩ [("_law_script", u)]) ∧ ∀ base : Heap, (K w.params).In base → base.Ns mainGlobals mg → FnOk l.prog w (K w.params) mg base CX0 5 fa fd ["_law_script"] (spF (K w.params) p_law g_law)) :
    PySem.W.WalkO q loose XP YP l.row.toRowW d [] (fun f vs => PySem.call f vs) :=
  L2.walk_of (n := 63) (k := 5) (x := "_law_script") (CX := fun _ => CX0) (sp := fun w => spF (K w.params) p_law g_law) hn (by decide) hdf ⟨rfl, by decide, by decide⟩ hY F (fun w H a ns hl _ hS => spLaw_ok _ H a ns hl hS) fun _ _ _ _ _ z => z
end Kc
open PySem PySem.W PyProof.Rows
set_option maxRecDepth 100000 in
set_option maxHeartbeats 0 in
theorem PySem.Challenge.cw_leftin_k04_whole_missing_holds : PySem.Challenge.rw_leftin_k04_whole_missing.Holds := by
  w_on; o_law; k_head; (case hw => w_witness2)
  k_fill
  refine Kc.walk (l := PySem.Challenge.rw_leftin_k04_whole_missing) rfl rfl (fun w h Y => PySem.W.kIn_of Y) ?F
  case F =>
    intro w mg fa h KX G hmg
    refine' Kc.all_mk KX G hmg ?n_isinstance ?n_int ?n_bool ?n_list ?n_tuple ?n_len ?n_range ?n_reversed ?n_enumerate ?n_zip ?n_sum ?n_min ?n_max ?n_all ?n_any ?n_set ?n_sorted ?g_get ?g_tk ?a_Answer ?a_Both ?a_Left ?pg_Left ?hd_Left ?po_Left ?sa_Left ?cc_Left ?mo_Left ?no_Left_places ?a_Longest ?a_Missing ?pg_Missing ?hd_Missing ?po_Missing ?sa_Missing ?cc_Missing ?mo_Missing ?no_Missing_cuts ?no_Missing_word ?a_Mixed ?a_Short ?pg_Short ?hd_Short ?po_Short ?sa_Short ?cc_Short ?mo_Short ?no_Short_places ?a_Unmixed ?i_Missing_Missing ?i_Missing_Answer ?i_Missing_Both ?i_Missing_Left ?i_Missing_Longest ?i_Missing_Mixed ?i_Missing_Short ?i_Missing_Unmixed ?i_Left_Left ?a_is_number ?l_is_number ?c_is_number ?k_is_number ?a_check_row ?l_check_row ?c_check_row ?k_check_row ?a_check_kinds ?l_check_kinds ?c_check_kinds ?k_check_kinds ?a_earliest ?l_earliest ?c_earliest ?k_earliest ?t_Left_init ?l_Left_init ?c_Left_init ?k_Left_init ?fn_Left_init ?m_Left_init ?q_Left_init ?t_Short_init ?l_Short_init ?c_Short_init ?k_Short_init ?fn_Short_init ?m_Short_init ?q_Short_init ?t_Missing_init ?l_Missing_init ?c_Missing_init ?k_Missing_init ?fn_Missing_init ?m_Missing_init ?q_Missing_init ?t_Missing_shows ?l_Missing_shows ?c_Missing_shows ?k_Missing_shows ?fn_Missing_shows ?a_left ?l_left ?c_left ?k_left ?a_missing ?l_missing ?c_missing ?k_missing ?a_law_numbers ?l_law_numbers ?c_law_numbers ?k_law_numbers ?a_law_is_left ?l_law_is_left ?c_law_is_left ?k_law_is_left ?a_law_missed ?l_law_missed ?c_law_missed ?k_law_missed ?a_law_right ?l_law_right ?c_law_right ?k_law_right ?a_law ?l_law ?c_law ?k_law
    (case n_isinstance => k_is)
    (case n_int => k_is)
    (case n_bool => k_is)
    (case n_list => k_is)
    (case n_tuple => k_is)
    (case n_len => k_is)
    (case n_range => k_is)
    (case n_reversed => k_is)
    (case n_enumerate => k_is)
    (case n_zip => k_is)
    (case n_sum => k_is)
    (case n_min => k_is)
    (case n_max => k_is)
    (case n_all => k_is)
    (case n_any => k_is)
    (case n_set => k_is)
    (case n_sorted => k_is)
    (case g_get => k_is)
    (case g_tk => k_is)
    (case a_Answer => k_is)
    (case a_Both => k_is)
    (case a_Left => k_is)
    (case pg_Left => k_is)
    (case hd_Left => k_is)
    (case po_Left => k_is)
    (case sa_Left => k_is)
    (case cc_Left => k_is)
    (case mo_Left => k_is)
    (case no_Left_places => k_is)
    (case a_Longest => k_is)
    (case a_Missing => k_is)
    (case pg_Missing => k_is)
    (case hd_Missing => k_is)
    (case po_Missing => k_is)
    (case sa_Missing => k_is)
    (case cc_Missing => k_is)
    (case mo_Missing => k_is)
    (case no_Missing_cuts => k_is)
    (case no_Missing_word => k_is)
    (case a_Mixed => k_is)
    (case a_Short => k_is)
    (case pg_Short => k_is)
    (case hd_Short => k_is)
    (case po_Short => k_is)
    (case sa_Short => k_is)
    (case cc_Short => k_is)
    (case mo_Short => k_is)
    (case no_Short_places => k_is)
    (case a_Unmixed => k_is)
    (case i_Missing_Missing => kit_is)
    (case i_Missing_Answer => kit_is)
    (case i_Missing_Both => kit_is)
    (case i_Missing_Left => kit_is)
    (case i_Missing_Longest => kit_is)
    (case i_Missing_Mixed => kit_is)
    (case i_Missing_Short => kit_is)
    (case i_Missing_Unmixed => kit_is)
    (case i_Left_Left => kit_is)
    (case a_is_number => k_is)
    (case l_is_number => k_is)
    (case c_is_number => k_is)
    (case k_is_number => k_is)
    (case a_check_row => k_is)
    (case l_check_row => k_is)
    (case c_check_row => k_is)
    (case k_check_row => k_is)
    (case a_check_kinds => k_is)
    (case l_check_kinds => k_is)
    (case c_check_kinds => k_is)
    (case k_check_kinds => k_is)
    (case a_earliest => k_is)
    (case l_earliest => k_is)
    (case c_earliest => k_is)
    (case k_earliest => k_is)
    (case t_Left_init => k_is)
    (case l_Left_init => k_is)
    (case c_Left_init => k_is)
    (case k_Left_init => k_is)
    (case fn_Left_init => k_is)
    (case m_Left_init => k_is)
    (case q_Left_init => k_is)
    (case t_Short_init => k_is)
    (case l_Short_init => k_is)
    (case c_Short_init => k_is)
    (case k_Short_init => k_is)
    (case fn_Short_init => k_is)
    (case m_Short_init => k_is)
    (case q_Short_init => k_is)
    (case t_Missing_init => k_is)
    (case l_Missing_init => k_is)
    (case c_Missing_init => k_is)
    (case k_Missing_init => k_is)
    (case fn_Missing_init => k_is)
    (case m_Missing_init => k_is)
    (case q_Missing_init => k_is)
    (case t_Missing_shows => k_is)
    (case l_Missing_shows => k_is)
    (case c_Missing_shows => k_is)
    (case k_Missing_shows => k_is)
    (case fn_Missing_shows => k_is)
    (case a_left => k_is)
    (case l_left => k_is)
    (case c_left => k_is)
    (case k_left => k_is)
    (case a_missing => k_is)
    (case l_missing => k_is)
    (case c_missing => k_is)
    (case k_missing => k_is)
    (case a_law_numbers => k_is)
    (case l_law_numbers => k_is)
    (case c_law_numbers => k_is)
    (case k_law_numbers => k_is)
    (case a_law_is_left => k_is)
    (case l_law_is_left => k_is)
    (case c_law_is_left => k_is)
    (case k_law_is_left => k_is)
    (case a_law_missed => k_is)
    (case l_law_missed => k_is)
    (case c_law_missed => k_is)
    (case k_law_missed => k_is)
    (case a_law_right => k_is)
    (case l_law_right => k_is)
    (case c_law_right => k_is)
    (case k_law_right => k_is)
    (case a_law => k_is)
    (case l_law => k_is)
    (case c_law => k_is)
    (case k_law => k_is)
#print axioms PySem.Challenge.cw_leftin_k04_whole_missing_holds
